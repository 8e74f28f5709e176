/- A part of the proofs. -/
import Derived.Test.YtpdlhpamcaocgaaGreatDoorP04
set_option linter.all false
set_option maxRecDepth 4000
namespace Go.Abs
section
abbrev RT:=List D->D->Prop
abbrev FT:=D->List D->D->D->Prop
abbrev TT:=List D->St->(D->St->Prop)->Prop
def Cg (T:TT):Prop:=∀ds st K K',(∀d st',K d st'->K' d st')->T ds st K->T ds st K'
def Bu (A:RT->Prop):RT:=fun ds d=>∀T,A T->T ds d
def oL (A:FT->Prop):FT:=fun d ds v s=>∀T,A T->T d ds v s
def LV (T:TT):Ctx:=⟨fun _ _=>False,fun _ _=>.any,fun _=>T,fun _ _ _=>False,fun _ _ _=>.any,fun _ _ _=>.any,0⟩
def ER (C:Ctx->Prop):TT:=fun ds st K=>∀T,Cg T->C (LV T)->T ds st K
def vQ (C:Ctx->Prop):Cg (ER C):=fun _ _ _ _ h h1 T hT hC=>hT _ _ _ _ h (h1 T hT hC)
def noR:RT:=fun _ _=>False
def Um:FT:=fun _ _ _ _=>False
def noT:TT:=fun _ _ _=>False
def yf:Cg noT:=fun _ _ _ _ _ h=>h.elim
structure sf where
 key:Nat
 rel:RT
 mu:List D->Nat
 relF:FT
 tr:TT
 muE:List D->St->Nat
 mono:Cg tr
def Ul:List D->Nat:=fun _=>0
def KB:List D->St->Nat:=fun _ _=>0
def nj:sf:=⟨0,noR,Ul,Um,noT,KB,yf⟩
def rP (k:Nat)(A:RT->Prop)(mu:List D->Nat:=Ul):sf:=⟨k,Bu A,mu,Um,noT,KB,yf⟩
def rF (k:Nat)(A:FT->Prop):sf:=⟨k,noR,Ul,oL A,noT,KB,yf⟩
def rG (k:Nat)(C:Ctx->Prop)(mu:List D->St->Nat:=KB):sf:=⟨k,noR,Ul,Um,ER C,mu,vQ C⟩
def rFG (k:Nat)(A:FT->Prop)(C:Ctx->Prop):sf:=⟨k,noR,Ul,oL A,ER C,KB,vQ C⟩
noncomputable def pick (r:D->Prop):D:=Classical.epsilon r
def lW {r:D->Prop}(h:∃d,r d):r (pick r):=Classical.epsilon_spec h
def SZ (R:RT):Prop:=∀ds d d',R ds d->R ds d'->d=d'
def xf (R:FT):Prop:=∀d ds v s v' s',R d ds v s->R d ds v' s'->v=v'/\s=s'
def Qb {A:RT->Prop}(h:A fun ds d=>A fun ds' d'=>ds'=ds->d=d'):SZ (Bu A):=fun ds d d' h1 h2=>h2 _ (h1 _ h) rfl
def MP {A:FT->Prop}(h:A fun d ds v s=>A fun d' ds' v' s'=>d'=d->ds'=ds->v=v'/\s=s'):xf (oL A):=fun d ds v s v' s' h1 h2=>h2 _ (h1 _ h) rfl rfl
noncomputable def zn (t:List (Nat×sf)):Ctx where
 pre n ds:=∃d,(lk t n nj).rel ds d
 val n ds:=pick ((lk t n nj).rel ds)
 tr n:=(lk t n nj).tr
 fp n d ds:=∃v s,(lk t n nj).relF d ds v s
 fv n d ds:=pick fun v=>∃s,(lk t n nj).relF d ds v s
 fs n d ds:=pick fun s=>∃v,(lk t n nj).relF d ds v s
 lo:=0
def Lr (t:List (Nat×sf)):PY:=⟨fun n=>(lk t n nj).key,fun n=>(lk t n nj).mu,fun n=>(lk t n nj).muE⟩
noncomputable abbrev under (t:List (Nat×sf))(k u:Nat):Ctx:=(zn t).under (Lr t) k u
def aV (t:List (Nat×sf))(k u n:Nat):(((zn t).under (Lr t) k u).at n).bz:=
 fun f ds st K K' h hh=>⟨hh.1,(lk t f nj).mono ds st K K' h hh.2⟩
section
variable {t:List (Nat×sf)} {n k u:Nat} {ds:List D} {d v s:D} {st:St} {K:D->St->Prop}
def dH (hD:SZ (lk t n nj).rel)(hk:(lk t n nj).key<k\/(lk t n nj).key=k/\(lk t n nj).mu ds<u)(h:(lk t n nj).rel ds d):(under t k u).pre n ds/\(under t k u).val n ds=d:=
 ⟨⟨hk,d,h⟩,hD _ _ _ (lW ⟨d,h⟩) h⟩
def okf (hD:xf (lk t n nj).relF)(hk:(lk t n nj).key<k)(h:(lk t n nj).relF d ds v s):(under t k u).fp n d ds/\(under t k u).fv n d ds=v/\(under t k u).fs n d ds=s:=by
 refine⟨⟨.inl hk,v,s,h⟩, ?_, ?_⟩
 ·obtain⟨s',h'⟩:=lW (r:=fun v=>∃s,(lk t n nj).relF d ds v s) ⟨v,s,h⟩;exact(hD _ _ _ _ _ _ h' h).1
 ·obtain⟨v',h'⟩:=lW (r:=fun s=>∃v,(lk t n nj).relF d ds v s) ⟨s,v,h⟩;exact(hD _ _ _ _ _ _ h' h).2
def uw (hk:(lk t n nj).key<k\/(lk t n nj).key=k/\(lk t n nj).muE ds st<u)(h:(lk t n nj).tr ds st K):(under t k u).tr n ds st K:=⟨hk,h⟩
end
section
variable [dy] {P:Program} {ν:List (Nat×Nat)} {cQ:List Nat} {Y:Ctx} {t:List (Nat×sf)} {fid n key:Nat}
def F0 (P:Program)(ν:List (Nat×Nat))(cQ:List Nat)(Y:Ctx)(fid:Nat)(ds:List D)(d:D):Prop:=Ok P ν cQ Y->∀(x:X)(args:Array Value),args.size=ds.length->(∀i,i<ds.length->RD ν x (args.getD i undef) (ds.getD i .any))->bx ds=true->
  (∀b,x.I b->b<x.w.heap.size)->dy.gd x->j6 P x (fun v x'=>nV x x'/\RD ν x' v d) ((callFunc fid args).run P x.w)
def zL (P:Program)(ν:List (Nat×Nat))(cQ:List Nat)(Y:Ctx)(fid:Nat)(d:D)(ds:List D)(vd new:D):Prop:=Ok P ν cQ Y->∀(x:X)(f:Nat->Option bV)(args:Array Value)(l k:Nat),args.size=ds.length+1->
   RD ν x (args.getD 0 undef) (.ptr l k 0 0)->(∀i,i<ds.length->RD ν x (args.getD (i+1) undef) (ds.getD i .any))->gh ν x f->f l=some (.buf k [d])->d.bG=true->bx ds=true->
   j6 P x (fun v x'=>Step x x'/\RD ν x' v vd/\gh ν x' (fun l'=>if l'=l then some (.buf k [new])else f l')/\x'.β=x.β) ((callFunc fid args).run P x.w)
def p9 (P:Program)(ν:List (Nat×Nat))(cQ:List Nat)(Y:Ctx)(fid:Nat)(ds:List D)(st:St)(K:D->St->Prop):Prop:=Ok P ν cQ Y->∀(x:X)(args:Array Value),args.size=ds.length->(∀i,i<ds.length->RD ν x (args.getD i undef) (ds.getD i .any))->gh ν x (look st.m)->fV st x->
  j6 P x (fun v x'=>∃d st',K d st'/\Step x x'/\RD ν x' v d/\gh ν x' (look st'.m)/\fV st' x') ((callFunc fid args).run P x.w)
structure Rd (P:Program)(ν:List (Nat×Nat))(cQ:List Nat)(t:List (Nat×sf))(fid n:Nat):Prop where
 p:∀ds d,(lk t n nj).rel ds d->F0 P ν cQ (under t (lk t n nj).key ((lk t n nj).mu ds)) fid ds d
 f:xf (lk t n nj).relF/\∀d ds v s,(lk t n nj).relF d ds v s->zL P ν cQ (under t (lk t n nj).key ((lk t n nj).mu (d::ds))) fid d ds v s
 g:∀ds st K,(lk t n nj).tr ds st K->p9 P ν cQ (under t (lk t n nj).key ((lk t n nj).muE ds st)) fid ds st K
def okA (hsm:∀fid n,fE ν fid=some n->n<1000000)(hB:∀t,cQ.contains (1000000000+t)=true->t=dy.tB)(h:∀fid n,fE ν fid=some n->Rd P ν cQ t fid n):Ok P ν cQ (zn t):=by
 refine Un (Lr t) hsm hB (fun fid n hn ds hp hok=>(h fid n hn).p ds _ (lW hp) hok) (fun fid n hn _ d ds hp hok=>?_) (fun fid n hn ds st K htr hok=>(h fid n hn).g ds st K htr hok);obtain⟨v,s,hr⟩:=hp;obtain⟨hD,hf⟩:=(h fid n hn).f;have h2:(zn t).fv n d ds=v/\(zn t).fs n d ds=s:=by
  constructor
  ·obtain⟨s',h'⟩:=lW (r:=fun v=>∃s,(lk t n nj).relF d ds v s) ⟨v,s,hr⟩;exact(hD _ _ _ _ _ _ h' hr).1
  ·obtain⟨v',h'⟩:=lW (r:=fun s=>∃v,(lk t n nj).relF d ds v s) ⟨s,v,hr⟩;exact(hD _ _ _ _ _ _ h' hr).2
 rw[h2.1,h2.2];exact hf d ds v s hr hok
def GN {Y:D->List D->Ctx}:xf Um/\∀d ds v s,Um d ds v s->zL P ν cQ (Y d ds) fid d ds v s:=⟨fun _ _ _ _ _ _ h=>h.elim,fun _ _ _ _ h=>h.elim⟩
def bO {A:RT->Prop}{mu:List D->Nat}(hr:lk t n nj=rP key A mu)(h:A fun ds d=>F0 P ν cQ (under t key (mu ds)) fid ds d):Rd P ν cQ t fid n:=by
 refine⟨?_, ?_, ?_⟩<;>rw[hr]
 ·exact fun ds d hd=>hd (fun ds d=>F0 P ν cQ (under t key (mu ds)) fid ds d) h
 ·exact GN
 ·exact fun _ _ _ h=>h.elim
def QE {A:FT->Prop}(hr:lk t n nj=rF key A)(hD:xf (oL A))(h:A fun d ds v s=>zL P ν cQ (under t key 0) fid d ds v s):Rd P ν cQ t fid n:=by
 refine⟨?_, ?_, ?_⟩<;>rw[hr]
 ·exact fun _ _ h=>h.elim
 ·exact⟨hD,fun d ds v s hd=>hd _ h⟩
 ·exact fun _ _ _ h=>h.elim
def Ag {Y:List D->St->Ctx}:Cg fun ds st K=>p9 P ν cQ (Y ds st) fid ds st K:=fun ds st K K' h hg hok x args hl ha hs hf=>(hg hok x args hl ha hs hf).mono fun v x' ⟨d,st',h1,h2⟩=>⟨d,st',h _ _ h1,h2⟩
def nD {C:Ctx->Prop}{mu:List D->St->Nat}(hr:lk t n nj=rG key C mu)(h:C (LV fun ds st K=>p9 P ν cQ (under t key (mu ds st)) fid ds st K)):Rd P ν cQ t fid n:=by
 refine⟨?_, ?_, ?_⟩<;>rw[hr]
 ·exact fun _ _ h=>h.elim
 ·exact GN
 ·exact fun ds st K hd=>hd (fun ds st K=>p9 P ν cQ (under t key (mu ds st)) fid ds st K) Ag h
def Uo {A:FT->Prop}{C:Ctx->Prop}(hr:lk t n nj=rFG key A C)(hD:xf (oL A))(h:A fun d ds v s=>zL P ν cQ (under t key 0) fid d ds v s)(h2:C (LV fun ds st K=>p9 P ν cQ (under t key 0) fid ds st K)):Rd P ν cQ t fid n:=by
 refine⟨?_, ?_, ?_⟩<;>rw[hr]
 ·exact fun _ _ h=>h.elim
 ·exact⟨hD,fun d ds v s hd=>hd _ h⟩
 ·exact fun ds st K hd=>hd _ Ag h2
def I9 (P:Program)(ν:List (Nat×Nat))(cQ:List Nat)(fid:Nat)(af:aJ):Prop:=(P.funcs[fid]?).map (fun f=>(compile P ν cQ f,f.name== "runtime.NumGoroutine"))=some (some af,false)
def I9.split {af:aJ}(h:I9 P ν cQ fid af):∃fn,P.funcs[fid]? =some fn/\compile P ν cQ fn=some af/\(fn.name== "runtime.NumGoroutine")=false:=by
 unfold I9 at h;cases hf:P.funcs[fid]? with
 |none=>rw[hf]at h;cases h
 |some fn=>
  rw[hf]at h;have h2:=bC h;exact⟨fn,rfl,ak Prod.fst h2,ak Prod.snd h2⟩
def bd {af:aJ}{ds:List D}{d:D}(hmix:P.follows .mixedOrders=true)(hC:I9 P ν cQ fid af)(h1:ds.length=af.np)(h2:bX (Y.at 0) af.body (P1 af d) (fI af ds) ⟨0,[]⟩):F0 P ν cQ Y fid ds d:=by
 intro hok x args hl hargs hnl himm hgd;obtain⟨fn,hf,hc,hn⟩:=hC.split;obtain⟨body,c1,_⟩:=jv hc;exact .inr ⟨fid,args,iZ hf hn (by rw[c1];rfl) args x.w,MW hok hmix hf hc hl hargs hnl himm hgd h1 h2⟩
def CS {af:aJ}{d:D}{ds:List D}{vd new:D}(k0:Nat)(hmix:P.follows .mixedOrders=true)(hC:I9 P ν cQ fid af)(h1:ds.length+1=af.np)(hk:d.cells.length=k0)
  (h2:bX (Y.at 1) af.body (Hk af k0 vd new) (fI af (.ptr 0 k0 0 0::ds)) ⟨1,[(0,.buf k0 [d])]⟩):zL P ν cQ Y fid d ds vd new:=by
 intro hok x f args l k hl h0 hargs hs hfl hd hnl;obtain⟨fn,hf,hc,hn⟩:=hC.split;obtain⟨body,c1,_⟩:=jv hc;have hkk:k=k0:=by
  generalize args.getD 0 undef=v0 at h0;cases h0 with
  |ptr _ _ _ _ b base tot at_ hβ hat=>
   obtain⟨p1,p2,c,T,fr,p3,p4,p5,p6⟩:=(hs.own l _ b base tot hfl hβ).2;have:=(p6 0 aN).1;simp only[iw]at this;omega
 subst hkk;exact .inr ⟨fid,args,iZ hf hn (by rw[c1];rfl) args x.w,MU hok hmix hf hc hl h0 hargs hs hfl hd hnl h1 h2⟩
def M4 {k l:Nat}{d:D}{ds:List D}{vd new:D}{st:St}{K:D->St->Prop}(h:zL P ν cQ Y fid d ds vd new)(hl:look st.m l=some (.buf k [d]))(hd:d.bG=true)(hnl:bx ds=true)(hK:K vd ⟨st.nx,du st.m l (.buf k [new])⟩):
  p9 P ν cQ Y fid (.ptr l k 0 0::ds) st K:=by
 intro hok x args hl2 hargs hs hf;refine(h hok x (look st.m) args l k (by simpa using hl2) (hargs 0 aN) (fun i hi=>hargs (i+1) (by simpa using hi)) hs hl hd hnl).mono ?_;rintro v x' ⟨h1,h2,h3,h4⟩;have e:(fun l'=>if l'=l then some (.buf k [new])else look st.m l')=look (du st.m l (.buf k [new])):=by
  funext l';rw[cF]
 refine⟨vd,_,hK,h1,h2,e▸h3,fun l' hl'=>by rw[h4];exact hf.β l' hl',fun l' hl'=>?_⟩;rw[cF]at hl';split at hl'
 ·rename_i e;subst e;exact hf.m _ (by rw[hl];simp)
 ·exact hf.m _ hl'
def Ae {af:aJ}{ds:List D}{st:St}{K:D->St->Prop}{σi:List (Nat×Nat)}{q:Nat}{m0:List (Nat×bV)}{cs:List D}{Q:D->List (Nat×bV)->Prop}(hmono:∀q,(Y.at q).bz)(hmix:P.follows .mixedOrders=true)(hC:I9 P ν cQ fid af)
  (h1:cs.length=ds.length) (h2:∀i,i<ds.length->Mb 0 σi (ds.getD i .any) (cs.getD i .any)) (h3:cs.length=af.np)
  (h4:iy 0 q σi=true) (h5:∀l i,(l,i)∈σi->look st.m l≠none) (h6:∀i b,look m0 i=some b->∃l b',(l,i)∈σi/\look st.m l=some b'/\se 0 σi b' b)
  (h7:bX (Y.at q) af.body (lu af Q) (fI af cs) ⟨q,m0⟩) (h8:∀d m1,Q d m1->∃(σo:List (Nat×Nat)) (q1:Nat) (st':St) (vd':D),Fr σi σo q q1 m0 m1 st st'/\Mb 0 σo d vd'/\K vd' st'):p9 P ν cQ Y fid ds st K:=by
 intro hok x args hl hargs hs hfr;obtain⟨fn,hf,hc,hn⟩:=hC.split;obtain⟨body,c1,_⟩:=jv hc;refine .inr ⟨fid,args,iZ hf hn (by rw[c1];rfl) args x.w, ?_⟩;refine Calls.mono (MV (K:=K) hok hmix hf hc hl hargs hs hfr h1 h2 h3 h4 h5 h6 (gZ (hmono q) _ _ _ _ _ (fun e env st1 h=>?_) h7)) fun e w' he=>?_
 ·obtain⟨g1,g2,m1,g3,g4⟩:=h;obtain⟨σo,q1,st',vd',k1,k2,k3⟩:=h8 _ _ g4;exact⟨g1,g2,σo,q1,m1,st',vd',k1,k2,k3,g3⟩
 ·match e,he with
  | .returned v,he=>
   obtain⟨x',d,st',g0,g1,g2,g3,g4,g5⟩:=he;exact⟨x',g1,d,st',g0,g2,g3,g4,g5⟩
end
end
end Go.Abs
section
namespace Go.Abs
structure bD where
 name:aq
 range:aq
 feats:List aq
 bare:Bool
 deriving Inhabited,DecidableEq
def bD.D (x:bD):D:=.agg [.str x.name,.str x.range,.sl 1 (x.feats.map D.str),.bool x.bare]
structure ba where
 any:List bD
 when':aq
 option:aq
 deriving Inhabited,DecidableEq
def ba.D (x:ba):D:=.agg [.sl 4 (x.any.map bD.D),.str x.when',.str x.option]
structure fh where
 name:aq
 range:aq
 when':aq
 deriving Inhabited,DecidableEq
def fh.D (x:fh):D:=.agg [.str x.name,.str x.range,.str x.when']
structure bF where
 name:aq
 of:List aq
 deriving Inhabited,DecidableEq
def bF.D (x:bF):D:=.agg [.str x.name,.sl 1 (x.of.map D.str)]
structure Rec where
 name:aq
 v:cM
 needs:List ba
 bars:List fh
 feats:List bF
 deriving Inhabited,DecidableEq
def Rec.D (x:Rec):D:=.agg [.str x.name,.int .i64 x.v.major,.int .i64 x.v.minor,.int .i64 x.v.patch,.str x.v.pre,.str x.v.build,.sl 3 (x.needs.map ba.D),.sl 3 (x.bars.map fh.D),.sl 2 (x.feats.map bF.D)]
structure cZ where
 op:Int
 parts:Int
 v:cM
 deriving Inhabited,DecidableEq
def cZ.D (x:cZ):D:=.agg [.int .i64 x.op,.int .i64 x.parts,.int .i64 x.v.major,.int .i64 x.v.minor,.int .i64 x.v.patch,.str x.v.pre,.str x.v.build]
structure Nd where
 op:Int
 a:Int
 b:Int
 key:Int
 text:aq
 deriving Inhabited,DecidableEq
def Nd.D (x:Nd):D:=.agg [.int .i64 x.op,.int .i64 x.a,.int .i64 x.b,.int .i64 x.key,.str x.text]
def fh.eq (a b:fh):jb (fh.D a).cells (fh.D b).cells=decide (a=b):=by
 obtain⟨a1,a2,a3⟩:=a;obtain⟨b1,b2,b3⟩:=b;simp only[fh.D,D.cells,jb,tK,fh.mk.injEq,iO];simp only[Bool.decide_and]
def bD.same {a b:bD}(e1:a.name=b.name)(e2:a.range=b.range)(e3:a.bare=b.bare):decide (a=b)=decide (a.feats=b.feats):=by
 obtain⟨a1,a2,a3,a4⟩:=a;obtain⟨b1,b2,b3,b4⟩:=b;simp only at e1 e2 e3;subst e1;subst e2;subst e3;simp
def rising (l:List aq):Bool:=cO (fun i=>Op.bytesLess l[i-1]! l[i]!) 1 l.length
def cU (s:aq):Int×aq×aq:=
 if cC s=true then(1,s,[])
 else if s.length>0/\at8 s 0=63/\cC (s.drop 1)=true then(2,s.drop 1,[])
 else if(ai s 47).length=2/\fZ (ai s 47)[0]! =true/\cC (ai s 47)[1]! =true then(3,(ai s 47)[0]!,(ai s 47)[1]!)
 else(0,[],[])
def findF (l:List bF)(nm:aq)(i:Nat):Int:=match(l.drop i).findIdx? (fun x=>decide (x.name=nm))with
 |some k=>((i+k:Nat):Int)
 |none=>-1
def CG {l:List bF}{nm:aq}{i:Nat}(h:i<l.length)(he:l[i]!.name=nm):findF l nm i=(i:Nat):=by
 unfold findF;rw[jP h,List.findIdx?_cons];have:l[i].name=nm:=by simpa[h]using he
 simp[this]
def CH {l:List bF}{nm:aq}{i:Nat}(h:i<l.length)(he:¬l[i]!.name=nm):findF l nm i=findF l nm (i+1):=by
 unfold findF;have:¬l[i].name=nm:=by simpa[h]using he
 rw[jP h,List.findIdx?_cons];simp only[this,decide_false,ey,aI];cases(l.drop (i+1)).findIdx? (fun x=>decide (x.name=nm))with
 |none=>rfl
 |some k=>simp only[Option.map_some];congr 1;omega
def z8 {l:List bF}{nm:aq}{i:Nat}(h:l.length<=i):findF l nm i=-1:=by
 unfold findF;rw[mg h];rfl
def Ox:aq:=[100,101,102,97,117,108,116]
def Nf (l:List bF)(nm:aq):Bool:=decide (nm=Ox) ||decide (0<=findF l nm 0)
def iL (l:List bF)(s:aq):Bool:=!(decide ((cU s).1=0) ||(decide ((cU s).1=1)&& !Nf l (cU s).2.1))
def kO (l:List bF)(of:List aq):Bool:=decide (of.length<=6)&&rising of&&cO (fun i=>iL l of[i]!) 0 of.length
def jI (l:List bF)(i:Nat):Bool:=cC l[i]!.name&& !(decide (0<i)&& !Op.bytesLess l[i-1]!.name l[i]!.name)&&kO l l[i]!.of
def gp (l:List bF):Bool:=decide (l.length<=8)&&cO (jI l) 0 l.length
def bF.sm (x:bF):Prop:=x.name.length<=1048576/\x.of.length<=1048576/\∀t∈x.of,t.length<=1048576
def pP (l:List bF):Prop:=∀x∈l,x.sm
def rT (b:aq):∀(l:List aq)(i:Nat),(bc b (l.take i)).length<=(bc b l).length
 |[],i=>aN
 |[t],0=>by simp[bc]
 |[t],i+1=>aN
 |t::u::r,0=>by simp[bc]
 |t::u::r,1=>by simp[bc]
 |t::u::r,i+2=>by
  have:=rT b (u::r) (i+1);simp only[List.take_succ_cons,bc,bE]at this⊢;omega
def ta (b t:aq):∀(l:List aq),l≠[]->bc b (l++[t])=bc b l++b++t
 |[],h=>absurd rfl h
 |[u],_=>by simp[bc]
 |u::v::r,_=>by
  have:=ta b t (v::r) aN;simp only[fu,bc]at this⊢;rw[this];simp
def pT (b:aq)(l:List aq)(i:Nat)(h:i<l.length):bc b (l.take (i+1))=(if 0<i then bc b (l.take i)++b else [])++l[i]! :=by
 have e:l.take (i+1)=l.take i++[l[i]!]:=by
  rw[List.take_add_one,List.getElem?_eq_getElem h];simp[h]
 rw[e];by_cases h0:0<i
 ·rw[av h0,ta _ _ _ (by intro hn;have:=ak List.length hn;simp only[dq,az]at this;omega)]
 ·obtain rfl:i=0:=ae;simp[bc]
end Go.Abs
namespace Go.Abs
def Gn {s:aq}(h0:cC s=true):cU s=(1,s,[]):=by simp only[cU,av h0]
def Gp {s:aq}(h0:cC s=false)(h:(0<(s.length:Int)/\at8 s 0=63)/\cC (s.drop 1)=true):cU s=(2,s.drop 1,[]):=by
 simp only[cU,h0,ey,aI];rw[av ⟨ae,h.1.2,h.2⟩]
def CW {s:aq}(h:(¬0<(s.length:Int)\/¬at8 s 0=63)\/cC (s.drop 1)=false):¬(s.length>0/\at8 s 0=63/\cC (s.drop 1)=true):=by
 rintro⟨h1,h2,h3⟩;rcases h with(h|h)|h
 ·omega
 ·exact h h2
 ·rw[h3]at h;cases h
def Gq {s:aq}(h0:cC s=false)(h:(¬0<(s.length:Int)\/¬at8 s 0=63)\/cC (s.drop 1)=false)(h2:(((ai s 47).length:Int)=2/\fZ (ai s 47)[0]! =true)/\cC (ai s 47)[1]! =true):cU s=((3:Int),(ai s 47)[0]!,(ai s 47)[1]!):=by
 simp only[cU,h0,ey,aI];rw[aj (CW h),av ⟨ae,h2.1.2,h2.2⟩]
def Gm {s:aq}(h0:cC s=false)(h:(¬0<(s.length:Int)\/¬at8 s 0=63)\/cC (s.drop 1)=false)(h2:(¬((ai s 47).length:Int)=2\/fZ (ai s 47)[0]! =false)\/cC (ai s 47)[1]! =false):cU s=(0,[],[]):=by
 simp only[cU,h0,ey,aI];rw[aj (CW h),aj];rintro⟨g1,g2,g3⟩;rcases h2 with(h2|h2)|h2
 ·omega
 ·rw[g2]at h2;cases h2
 ·rw[g3]at h2;cases h2
end Go.Abs
end
namespace Go.Abs
def Ba (s:aq)(i:Nat)(h:i<s.length):at8 s i=((s[i]'h).toNat:Int):=by simp[at8,h]
def Co (p:Int->Bool)(s:aq):cO (fun i=>p (at8 s i)) 0 s.length=true↔∀c∈s,p c.toNat=true:=by
 rw[eE];constructor
 ·intro h c hc;obtain⟨i,hi,rfl⟩:=List.getElem_of_mem hc;have:=h i ae hi
  rwa [Ba s i hi]at this
 ·intro h j _ hj;rw[Ba s j hj];exact h _ (List.getElem_mem hj)
def rA {b:Int}:∀{s cur:aq},(∀c∈s,(c.toNat:Int)≠b)->cy b s cur=[cur++s]
 |[],cur,_=>by simp[cy]
 |c::r,cur,h=>by
  simp only[cy];rw[aj (h c (.head _)),rA (fun d hd=>h d (.tail _ hd))];simp
def yQ {b:Int}{x:UInt8}(hx:(x.toNat:Int)=b)(r:aq):∀{w cur:aq},(∀c∈w,(c.toNat:Int)≠b)->cy b (w++x::r) cur=(cur++w)::cy b r []
 |[],cur,_=>by simp[cy,hx]
 |c::w,cur,h=>by
  simp only[fu,cy];rw[aj (h c (.head _)),yQ hx r (fun d hd=>h d (.tail _ hd))];simp
def v8 {b:Int}{x:UInt8}(hx:(x.toNat:Int)=b):∀{ws:List aq},ws≠[]->(∀w∈ws,∀c∈w,(c.toNat:Int)≠b)->ai (bc [x] ws) b=ws
 |[],h,_=>absurd rfl h
 |[w],_,h=>by
  show cy b w []=[w];rw[rA (h w (.head _))];rfl
 |w::u::r,_,h=>by
  have ih:=v8 (ws:=u::r) hx aN (fun v hv=>h v (.tail _ hv));show cy b (w++[x]++bc [x] (u::r)) []=_;rw[dG,List.singleton_append,yQ hx _ (h w (.head _))];rw[show cy b (bc [x] (u::r)) []=u::r from ih];rfl
def qT {b:Int}{x:UInt8}(hx:(x.toNat:Int)=b):∀(s cur:aq),bc [x] (cy b s cur)=cur++s
 |[],cur=>by simp[cy,bc]
 |c::r,cur=>by
  simp only[cy];split
  ·rename_i h;rw[ik _ _ _ (by intro h;have:=fq b r [];rw[h]at this;simp at this),qT hx r []];have:c=x:=jo.1 ae;simp[this]
  ·rw[qT hx r];simp
def kt {b:Int}{x:UInt8}(hx:(x.toNat:Int)=b)(s:aq):bc [x] (ai s b)=s:=by
 unfold ai;rw[qT hx];rfl
def CA {n:Nat}(h:n<10):bB (dg n).toNat=true:=by
 have:=JU h;simp only[bB,bh,aS];omega
def Cz {Q:Nat->Prop}(h1:∀n,n<10->Q n)(h2:∀n,9<n->Q (n/10)->Q n)(n:Nat):Q n:=by
 induction n using Nat.strongRecOn with
 |ind n ih=>
  by_cases h:n<10
  ·exact h1 n h
  ·exact h2 n ae (ih _ ae)
def qC (n:Nat):∀c∈dQ n,bB c.toNat=true:=by
 refine Cz (Q:=fun n=>∀c∈dQ n,bB c.toNat=true) (fun n h c hc=>?_) (fun n h ih c hc=>?_) n
 ·rw[pN h]at hc;obtain rfl:=cK.1 hc;exact CA h
 ·rw[pM h]at hc;rcases List.mem_append.1 hc with hc|hc
  ·exact ih c hc
  ·obtain rfl:=cK.1 hc;exact CA ae
def E3 (s:aq)(c:UInt8):dJ (s++[c])=dJ s*10+(c.toNat-48):=by
 simp[dJ,List.foldl_append]
def MN (n:Nat):dQ n≠[]:=by
 refine Cz (Q:=fun n=>dQ n≠[]) (fun n h=>?_) (fun n h ih=>?_) n
 ·rw[pN h];simp
 ·rw[pM h];simp
def rU (x:UInt8):∀(ws:List aq)(c:UInt8),c∈bc [x] ws->c=x\/∃w∈ws,c∈w
 |[],c,h=>by simp[bc]at h
 |[w],c,h=>.inr ⟨w,.head _,h⟩
 |w::u::r,c,h=>by
  rw[ik _ _ _ aN]at h;simp only[List.mem_append,cK]at h;rcases h with(h|h)|h
  ·exact .inr ⟨w,.head _,h⟩
  ·exact .inl h
  ·rcases rU x (u::r) c h with h|⟨v,hv,hc⟩
   ·exact .inl h
   ·exact .inr ⟨v,.tail _ hv,hc⟩
def LO {s:aq}{p:Bool}(h:rC s p=true){c:UInt8}(hc:c∈s):nS c.toNat=true\/c=46:=by
 simp only[rC,cR,aS,nq,bh,eE]at h;rcases h with rfl|⟨_,h⟩
 ·cases hc
 ·rw[<-kt (b:=46) (x:=46) rfl s]at hc;rcases rU 46 _ c hc with rfl|⟨w,hw,hcw⟩
  ·exact .inr rfl
  ·left;obtain⟨i,hi,rfl⟩:=List.getElem_of_mem hw;have:=h i ae hi;rw[show(ai s 46)[i]! =(ai s 46)[i]by simp[hi]]at this;simp only[iD,qq,bh]at this;exact(Co nS _).1 this.1.2 c hcw
def JW {c:UInt8}(h:bB c.toNat=true):c.toNat≠46/\c.toNat≠45/\c.toNat≠43/\c.toNat≠32/\c.toNat≠10:=by
 simp only[bB,bh,aS]at h;omega
def coreS (v:cM):aq:=dQ v.major.toNat++[46]++dQ v.minor.toNat++[46]++dQ v.patch.toNat
def IZ (v:cM):wH v=coreS v++(if v.pre=[]then []else 45::v.pre)++(if v.build=[]then []else 43::v.build):=rfl
def hv (c:UInt8):Nat:=if bB c.toNat=true then c.toNat-48 else c.toNat-87
def wo (s:aq):Nat:=s.foldl (fun n c=>n*16+hv c) 0
def N5 {s:aq}(h:cC s=true){c:UInt8}(hc:c∈s):yZ c.toNat=true:=by
 simp only[cC,bh]at h;exact(Co yZ s).1 h.2 c hc
def uy.wf (x:uy):Prop:=0<=x.sum/\x.sum<18446744073709551616
def Cb.wf (l:Cb):Prop:=∀x∈l.lines,x.wf
end Go.Abs
section
namespace Go.Abs
def wc {b:Int}{x:UInt8}(hx:(x.toNat:Int)=b):∀(s cur:aq),cy b s cur=match s.findIdx? (fun c=>c==x)with
  |some k=>(cur++s.take k)::cy b (s.drop (k+1)) []
  |none=>[cur++s]
 |[],cur=>by simp[cy]
 |c::r,cur=>by
  simp only[cy,List.findIdx?_cons];by_cases h:c=x
  ·subst h;rw[av hx];simp
  ·have h1:¬(c.toNat:Int)=b:=fun e=>h (jo.1 ae)
   have h2:(c==x)=false:=by simpa using h
   rw[aj h1,h2,wc hx r (cur++[c])];cases r.findIdx? (fun c=>c==x)with
   |none=>simp
   |some k=>simp
def AN (s:aq)(x:UInt8):ai s x.toNat=if(hX s x).2.2=true then(hX s x).1::ai (hX s x).2.1 x.toNat else [s]:=by
 unfold ai hX;rw[wc (x:=x) rfl];cases s.findIdx? (fun c=>c==x)with
 |none=>simp
 |some k=>simp
def AG {s:aq}:(((hX s 47).2.2=true/\fZ (hX s 47).1=true)/\cC (hX s 47).2.1=true)↔(((ai s 47).length:Int)=2/\fZ (ai s 47)[0]! =true)/\cC (ai s 47)[1]! =true:=by
 have h:=AN s 47;rw[show(((47:UInt8).toNat:Nat):Int)=47 from rfl]at h;by_cases hc:(hX s 47).2.2=true
 ·rw[av hc]at h;rw[h];have hj:=kt (b:=47) (x:=47) rfl (hX s 47).2.1;constructor
  ·rintro⟨⟨_,h1⟩,h2⟩;have h3:ai (hX s 47).2.1 47=[(hX s 47).2.1]:=by
    show cy 47 _ []=_;rw[rA (fun c hc=>?_)]
    ·rfl
    ·have:=N5 h2 hc;simp only[yZ,jc,bB,cR,bh,aS]at this;omega
   rw[h3];exact⟨⟨rfl,h1⟩,h2⟩
  ·rintro⟨⟨h1,h2⟩,h3⟩;refine⟨⟨hc,h2⟩, ?_⟩;generalize ai (hX s 47).2.1 47=q at hj h1 h3
   match q,h1 with
   |[y],_=>
    have:y=(hX s 47).2.1:=hj;rw[<-this];exact h3
   |[],h1=>simp at h1
   |_::_::_,h1=>simp at h1;omega
 ·rw[aj hc]at h;rw[h];constructor
  ·rintro⟨⟨h1,_⟩,_⟩;exact absurd h1 hc
  ·rintro⟨⟨h1,_⟩,_⟩;simp at h1
def C5 {s:aq}:(fm s [63]).2=true↔0<(s.length:Int)/\at8 s 0=63:=by
 match s with
 |[]=>simp[fm,List.isPrefixOf]
 |c::r=>
  have e:((c.toNat:Int)=63)↔c=63:=⟨fun h=>jo.1 (by have:(63:UInt8).toNat=63:=rfl;omega),fun h=>by subst h;rfl⟩;simp only[fm,List.isPrefixOf,iO,at8,iw,ax];by_cases h:c=63
  ·subst h;simp
  ·have:¬(c.toNat:Int)=63:=fun h2=>h (e.1 h2)
   have h3:((63:UInt8)==c)=false:=by simpa using fun h2=>h h2.symm
   simp[h3,this]
def An {s:aq}(h:(fm s [63]).2=true):(fm s [63]).1=s.drop 1:=by
 unfold fm at h⊢;split at h
 ·rename_i hp;rw[av hp];rfl
 ·cases h
def Ni {s:aq}(h0:cC s=false)(h:(fm s [63]).2=true/\cC (fm s [63]).1=true):cU s=(2,(fm s [63]).1,[]):=by
 rw[An h.1]at h⊢;exact Gp h0 ⟨C5.1 h.1,h.2⟩
def Gr {s:aq}(h:(fm s [63]).2=false\/cC (fm s [63]).1=false):(¬0<(s.length:Int)\/¬at8 s 0=63)\/cC (s.drop 1)=false:=by
 by_cases hp:(fm s [63]).2=true
 ·rw[An hp]at h;rcases h with h|h
  ·rw[hp]at h;cases h
  ·exact .inr h
 ·have:=fun h2=>hp (C5.2 h2)
  by_cases h1:0<(s.length:Int)
  ·exact .inl (.inr fun h2=>this ⟨h1,h2⟩)
  ·exact .inl (.inl h1)
def Nj {s:aq}(h0:cC s=false)(h:(fm s [63]).2=false\/cC (fm s [63]).1=false)(h2:((hX s 47).2.2=true/\fZ (hX s 47).1=true)/\cC (hX s 47).2.1=true):cU s=((3:Int),(hX s 47).1,(hX s 47).2.1):=by
 have h3:=AG.1 h2;rw[Gq h0 (Gr h) h3];have hs:=AN s 47;rw[show(((47:UInt8).toNat:Nat):Int)=47 from rfl,av h2.1.1]at hs;have hj:=kt (b:=47) (x:=47) rfl (hX s 47).2.1;have hl:=h3.1.1;rw[hs]at hl⊢;generalize ai (hX s 47).2.1 47=q at hj hl
 match q,hl with
 |[y],_=>
  have:y=(hX s 47).2.1:=hj;rw[<-this];rfl
 |[],h1=>simp at h1
 |_::_::_,h1=>simp at h1;omega
def Nh {s:aq}(h0:cC s=false)(h:(fm s [63]).2=false\/cC (fm s [63]).1=false)(h2:((hX s 47).2.2=false\/fZ (hX s 47).1=false)\/cC (hX s 47).2.1=false):cU s=(0,[],[]):=by
 refine Gm h0 (Gr h) ?_;have hn:¬((((ai s 47).length:Int)=2/\fZ (ai s 47)[0]! =true)/\cC (ai s 47)[1]! =true):=fun h3=>by
  obtain⟨⟨g1,g2⟩,g3⟩:=AG.2 h3;rcases h2 with(h2|h2)|h2
  ·rw[g1]at h2;cases h2
  ·rw[g2]at h2;cases h2
  ·rw[g3]at h2;cases h2
 by_cases k1:((ai s 47).length:Int)=2
 ·by_cases k2:fZ (ai s 47)[0]! =true
  ·right;cases k3:cC (ai s 47)[1]! with
   |false=>rfl
   |true=>exact absurd ⟨⟨k1,k2⟩,k3⟩ hn
  ·exact .inl (.inr (by simpa using k2))
 ·exact .inl (.inl k1)
end Go.Abs
namespace Go.Abs
def HD {l:List bF}{i:Nat}(h:(!cC l[i]!.name ||(decide ((0:Int)<(i:Int))&& !Op.bytesLess l[i-1]!.name l[i]!.name) ||decide ((6:Int)<(l[i]!.of.length:Int)) ||!rising l[i]!.of)=false):
  jI l i=cO (fun j=>iL l l[i]!.of[j]!) 0 l[i]!.of.length:=by
 simp only[c9,bP,bj]at h;obtain⟨⟨⟨h1,h2⟩,h3⟩,h4⟩:=h;have e:(decide (0<i)&& !Op.bytesLess l[i-1]!.name l[i]!.name)=false:=by
  rw[show decide (0<i)=decide ((0:Int)<(i:Int))from ed.2 ae];exact h2
 simp only[jI,kO,h1,e,h4];rw[bS ae];rfl
def HC {l:List bF}{i:Nat}(h:(!cC l[i]!.name ||(decide ((0:Int)<(i:Int))&& !Op.bytesLess l[i-1]!.name l[i]!.name) ||decide ((6:Int)<(l[i]!.of.length:Int)) ||!rising l[i]!.of)=true):
  jI l i=false:=by
 have e:decide ((0:Int)<(i:Int))=decide (0<i):=ed.2 ae;have e6:decide ((6:Int)<(l[i]!.of.length:Int))=!decide (l[i]!.of.length<=6):=by
  by_cases h6:l[i]!.of.length<=6
  ·rw[bS h6,cJ ae];rfl
  ·rw[cJ h6,bS ae];rfl
 rw[e,e6]at h;simp only[jI,kO];revert h;generalize cC l[i]!.name=a;generalize (decide (0<i)&& !Op.bytesLess l[i-1]!.name l[i]!.name)=b;generalize decide (l[i]!.of.length<=6)=c;generalize rising l[i]!.of=d;cases a<;>cases b<;>cases c<;>cases d<;>simp
end Go.Abs
end
section
namespace Go.Abs
def dm (op:Int):aq:=if op=1 then [61]else if op=2 then [33,61]else if op=3 then [60]else if op=4 then [60,61]else if op=5 then [62]else if op=6 then [62,61]else if op=7 then [94]else if op=8 then [126]else []
def vw (op:Int):(dm op).length<=2:=by
 unfold dm;repeat' split
 all_goals decide
def qh (s w:aq):Bool:=decide (w.length<=s.length)&&decide (s.take w.length=w)
def qi (c:cZ):Bool:=(decide (0<c.parts) ||decide (c.v.major=0))&&(decide (1<c.parts) ||decide (c.v.minor=0))&&(decide (2<c.parts) ||decide (c.v.patch=0))
def lJ (c:cZ):Bool:=decide (1<=c.op)&&decide (c.op<=9)&&iW c.v&&decide (c.v.build=[])&&decide ((if c.op=9 then 0 else 1)<=c.parts)&&decide (c.parts<=if c.op=9 then 2 else 3)&&(decide (3<=c.parts) ||decide (c.v.pre=[]))&&qi c
def cZ.sm (c:cZ):Prop:=c.v.sm
def Cv {c:cZ}(h:(decide (c.op<1) ||decide (9<c.op) ||!iW c.v ||!decide (c.v.build=[]))=true):lJ c=false:=by
 unfold lJ;rw[show decide (c.op<1)=!decide (1<=c.op)by rw[<-decide_not];exact ed.2 ae,show decide (9<c.op)=!decide (c.op<=9)by rw[<-decide_not];exact ed.2 ae]at h;revert h;generalize decide (1<=c.op)=a1;generalize decide (c.op<=9)=a2;generalize iW c.v=a3;generalize decide (c.v.build=[])=a4;cases a1<;>cases a2<;>cases a3<;>cases a4<;>simp
def zW {c:cZ}(h:(decide (c.op<1) ||decide (9<c.op) ||!iW c.v ||!decide (c.v.build=[]))=false):1<=c.op/\c.op<=9/\iW c.v=true/\c.v.build=[]:=by
 simp only[c9,bj,bP,aS]at h;exact⟨ae,ae,h.1.2,h.2⟩
end Go.Abs
namespace Go.Abs
def rM {c:cZ}(hy:1<=c.op/\c.op<=9/\iW c.v=true/\c.v.build=[]){lo hi:Int}(hlo:(if c.op=9 then 0 else 1)=lo)(hhi:(if c.op=9 then 2 else 3)=hi):
  lJ c=(!(decide (c.parts<lo) ||decide (hi<c.parts) ||(decide (c.parts<3)&& !decide (c.v.pre=[])))&&qi c):=by
 obtain⟨h1,h2,h3,h4⟩:=hy;unfold lJ;rw[bS h1,bS h2,h3,bS h4,hlo,hhi];rw[show decide (c.parts<lo)=!decide (lo<=c.parts)by rw[<-decide_not];exact ed.2 ae,show decide (hi<c.parts)=!decide (c.parts<=hi)by rw[<-decide_not];exact ed.2 ae,show decide (c.parts<3)=!decide (3<=c.parts)by rw[<-decide_not];exact ed.2 ae];generalize decide (lo<=c.parts)=a1;generalize decide (c.parts<=hi)=a2;generalize decide (3<=c.parts)=a3;generalize decide (c.v.pre=[])=a4;cases a1<;>cases a2<;>cases a3<;>cases a4<;>simp
end Go.Abs
namespace Go.Abs
def cZ.mG (c:cZ):List Int:=[c.v.major,c.v.minor,c.v.patch]
def gD (c:cZ):Nat->aq
 |0=>[]
 |i+1=>gD c i++(if 0<i then [46]else [])++dQ (c.mG[i]!).toNat
def lF (c:cZ):aq:=if c.op=9 then(if 0<c.parts then [46]else [])++[42]else if c.v.pre=[]then []else 45::c.v.pre
def mz (c:cZ):aq:=dm c.op++gD c c.parts.toNat++lF c
def dN (c:cZ):aq:=if lJ c=true then mz c else []
def qX {c:cZ}(h:iW c.v=true)(i:Nat):0<=c.mG[i]! /\c.mG[i]! <=9999:=by
 simp only[iW,nw,bh,aS]at h
 match i with
 |0=>exact h.1.1.1.1
 |1=>exact h.1.1.1.2
 |2=>exact h.1.1.2
 |k+3=>exact(by simp[cZ.mG]:0<=c.mG[k+3]! /\c.mG[k+3]! <=9999)
def rZ {c:cZ}(h:iW c.v=true):∀i,(gD c i).length<=5*i
 |0=>by simp[gD]
 |i+1=>by
  have:=rZ h i;have hn:=qX h i;have:=eG 4 (c.mG[i]!).toNat ae ae;simp only[gD,bE];split
  ·simp only[List.length_singleton];omega
  ·simp only[az];omega
def oV {c:cZ}(h:lJ c=true):iW c.v=true/\0<=c.parts/\c.parts<=3/\1<=c.op/\c.op<=9:=by
 simp only[lJ,bh,aS]at h;obtain⟨⟨⟨⟨⟨⟨⟨h1,h2⟩,h3⟩,h4⟩,h5⟩,h6⟩,h7⟩,h8⟩:=h;refine⟨h3, ?_, ?_,h1,h2⟩
 ·split at h5<;>omega
 ·split at h6<;>omega
end Go.Abs
namespace Go.Abs
def mJ (c:cZ):List aq:=(c.mG.map fun n=>dQ n.toNat).take c.parts.toNat
def Aw (c:cZ):∀i,i<=3->bc [46] ((c.mG.map fun n=>dQ n.toNat).take i)=gD c i
 |0,_=>by simp[bc,gD]
 |i+1,h=>by
  have hl:i<(c.mG.map fun n=>dQ n.toNat).length:=by simp[cZ.mG];omega
  have hl2:i<c.mG.length:=by show i<3;omega
  rw[pT _ _ _ hl,Aw c i ae];simp only[gD];have e:(c.mG.map fun n=>dQ n.toNat)[i]! =dQ (c.mG[i]!).toNat:=by simp[hl2]
  rw[e];split
  ·simp
  ·obtain rfl:i=0:=ae;simp[gD]
def DX {c:cZ}(h:c.parts<=3):(mJ c).length=c.parts.toNat:=by
 simp[mJ,cZ.mG];omega
def AR {c:cZ}(h:c.parts<=3):bc [46] (mJ c)=gD c c.parts.toNat:=Aw c _ ae
def vB {c:cZ}(h0:0<=c.parts)(h:c.parts<=3):bc [46] (mJ c++[[42]])=gD c c.parts.toNat++((if 0<c.parts then [46]else [])++[42]):=by
 by_cases hp:0<c.parts
 ·rw[ta _ _ _ (by intro hn;have:=ak List.length hn;rw[DX h]at this;simp only[az]at this;omega),AR h,av hp];simp
 ·have:c.parts.toNat=0:=ae;rw[aj hp,this];have e:mJ c=[]:=by simp[mJ,this]
  rw[e];rfl
end Go.Abs
namespace Go.Abs
def opsL:List Int:=[2,4,6,1,3,5,7,8]
def pY (s:aq)(i:Nat):Option Int:=(opsL.drop i).find? fun o=>qh s (dm o)
def gv (s:aq):Int×aq:=match pY s 0 with
 |some o=>(o,s.drop (dm o).length)
 |none=>if 0<s.length/\at8 s (s.length-1)=42 then(9,s)else(7,s)
def GP {s:aq}{i:Nat}(h:i<8)(hb:qh s (dm opsL[i]!)=true):pY s i=some opsL[i]! :=by
 have hl:i<opsL.length:=h;unfold pY;rw[jP hl,List.find?_cons];rw[show opsL[i]! =opsL[i]by simp[hl]]at hb⊢;rw[hb]
def GQ {s:aq}{i:Nat}(h:i<8)(hb:qh s (dm opsL[i]!)=false):pY s i=pY s (i+1):=by
 have hl:i<opsL.length:=h;unfold pY;rw[jP hl,List.find?_cons];rw[show opsL[i]! =opsL[i]by simp[hl]]at hb;rw[hb]
def yj {s:aq}{i:Nat}(h:8<=i):pY s i=none:=by
 unfold pY;rw[mg h];rfl
def hZ (s:aq)(i:Nat):aq×aq:=match(s.drop i).findIdx? (fun c=>c==45)with
 |some k=>(s.take (i+k),s.drop (i+k+1))
 |none=>(s,[])
def GS {s:aq}{i:Nat}(h:i<s.length)(he:at8 s i=45):hZ s i=(s.take i,s.drop (i+1)):=by
 unfold hZ;rw[mi s i h,List.findIdx?_cons];have:s.getD i 0=45:=jo.1 (by simp only[at8]at he;show(s.getD i 0).toNat=45;omega);rw[this];rfl
def GU {s:aq}{i:Nat}(h:i<s.length)(he:¬at8 s i=45):hZ s i=hZ s (i+1):=by
 unfold hZ;rw[mi s i h,List.findIdx?_cons];have:(s.getD i 0==45)=false:=by
  rw[beq_eq_false_iff_ne];intro e;exact he (by simp only[at8,e];rfl)
 rw[this];simp only[ey,aI];cases(s.drop (i+1)).findIdx? (fun c=>c==45)with
 |none=>rfl
 |some k=>simp only[Option.map_some];rw[show i+(k+1)=i+1+k by omega]
def Dj {s:aq}{i:Nat}(h:s.length<=i):hZ s i=(s,[]):=by
 unfold hZ;rw[mg h];rfl
end Go.Abs
namespace Go.Abs
def e8 (l:List aq):Bool:=decide (l.length<=3)&&cO (fun i=>fo l[i]!) 0 l.length
def KJ (l:List aq):cM:=⟨if 0<l.length then dU l[0]! else 0,if 1<l.length then dU l[1]! else 0,if 2<l.length then dU l[2]! else 0,[],[]⟩
def wA (l:List aq):cM:=if e8 l=true then KJ l else fH
end Go.Abs
namespace Go.Abs
def dZ:cZ:=⟨0,0,fH⟩
def AB (op:Int)(l:List aq):List aq:=if op=9 then l.take (l.length-1)else l
def gA (op:Int)(l:List aq)(pre:aq):cZ:=⟨op,(l.length:Nat),{KJ l with pre:=pre}⟩
def vU (s:aq)(op:Int)(l:List aq)(pre:aq):Bool:=e8 l&& !(decide (dN (gA op l pre)=[]) ||(!decide (dN (gA op l pre)=s)&& !decide (dN (gA op l pre)=94::s)))
def ef (s:aq):Option cZ:=
 let o:=gv s
 let p:=hZ o.2 0
 let l:=AB o.1 (ai p.1 46)
 if vU s o.1 l p.2=true then some (gA o.1 l p.2)else none
def yM (s:aq):(gv s).2.length<=s.length:=by
 unfold gv;split
 ·simp
 ·split<;>exact aM _
def yq (s:aq):(hZ s 0).1.length<=s.length/\(hZ s 0).2.length<=s.length:=by
 unfold hZ;split<;>simp<;>omega
end Go.Abs
namespace Go.Abs
def dD (s:aq):Int×aq:=match pY s 0 with
 |some o=>(o,s.drop (dm o).length)
 |none=>(9,s)
def eZ (s:aq):aq×aq:=hZ (dD s).2 0
def eB (s:aq):List aq:=AB (dD s).1 (ai (eZ s).1 46)
def ot (s:aq):Prop:=(dD s).1=9->(ai (eZ s).1 46)[(ai (eZ s).1 46).length-1]! =[42]
instance (s:aq):Decidable (ot s):=by unfold ot;exact inferInstance
def eP (s:aq):cZ:=gA (dD s).1 (eB s) (eZ s).2
def gM (s:aq):Option cZ:=if ot s/\e8 (eB s)=true/\lJ (eP s)=true/\dN (eP s)=s then some (eP s)else none
def GO (l:List aq)(i:Nat):cM:=⟨if 0<i then dU l[0]! else 0,if 1<i then dU l[1]! else 0,if 2<i then dU l[2]! else 0,[],[]⟩
def Iv (s:aq):(dD s).2.length<=s.length:=by
 unfold dD;split<;>simp
def kR {s:aq}(h:¬(ot s/\e8 (eB s)=true/\lJ (eP s)=true/\dN (eP s)=s)):gM s=none:=by
 unfold gM;rw[aj h]
end Go.Abs
namespace Go.Abs
def lA (s:aq):Option cZ:=if(gM s).isSome=true then gM s else gM (94::s)
def DW (c:cZ):bV:=.buf 1 [.str (dQ c.v.major.toNat),.str (dQ c.v.minor.toNat),.str (dQ c.v.patch.toNat)]
def yS (c:cZ):[D.str (dQ c.v.major.toNat),D.str (dQ c.v.minor.toNat),D.str (dQ c.v.patch.toNat)].take c.parts.toNat=(mJ c).map D.str:=by
 unfold mJ cZ.mG;rw[List.map_take];rfl
def N1 {c:cZ}{m:List (Nat×bV)}{l:Nat}(hl:look m l=some (DW c)):xV m [.sl 1 [.a]] (.own l 1 0 c.parts.toNat)=.sl 1 ((mJ c).map D.str):=by
 show D.sl 1 _=_;simp only[bq,hl,DW,bR,yS,List.map_map];congr 1
def LU {c:cZ}{m:List (Nat×bV)}{l:Nat}(h:c.parts<=3)(hl:look m l=some (DW c)):Mg m [.sl 1 [.a]] (.own l 1 0 c.parts.toNat):=by
 simp only[Mg,OQ,OP];refine⟨by simp[fW,hl,DW];omega, ?_⟩;simp only[bq,hl,DW,bR,yS];intro e he;obtain⟨x,_,rfl⟩:=fQ.1 he;trivial
end Go.Abs
end
namespace Go.Abs
def rN {c:cZ}(h:dN c≠[]):lJ c=true/\dN c=mz c:=by
 unfold dN at h⊢;split at h
 ·rename_i hb;exact⟨hb,av hb⟩
 ·exact absurd rfl h
def Bz {s:aq}{op:Int}{l:List aq}{pre:aq}:vU s op l pre=true↔e8 l=true/\dN (gA op l pre)≠[]/\(dN (gA op l pre)=s\/dN (gA op l pre)=94::s):=by
 simp only[vU,bh,bn,c9,bj,dt,bP,aS]
def vg (c:UInt8):Prop:=c≠33/\c≠60/\c≠61/\c≠62/\c≠94/\c≠126
def qE {c:UInt8}(h:bB c.toNat=true):vg c/\c≠42:=by
 simp only[bB,bh,aS]at h;refine⟨⟨?_, ?_, ?_, ?_, ?_, ?_⟩, ?_⟩<;>rintro rfl<;>revert h<;>decide
def Db {k:cZ}:∀(i:Nat)(c:UInt8),c∈gD k i->bB c.toNat=true\/c=46
 |0,c,h=>by simp[gD]at h
 |i+1,c,h=>by
  simp only[gD,List.mem_append]at h;rcases h with(h|h)|h
  ·exact Db i c h
  ·split at h
   ·exact .inr (cK.1 h)
   ·cases h
  ·exact .inl (qC _ c h)
def yh (k:cZ):∀i,0<i->∃c r,gD k i=c::r/\bB c.toNat=true
 |0,h=>ae
 |1,_=>by
  have hd:=qC (k.mG[0]!).toNat;have hn:=MN (k.mG[0]!).toNat;simp only[gD,Nat.lt_irrefl,aI,eY];generalize dQ (k.mG[0]!).toNat=w at hd hn
  match w,hn with
  |c::r,_=>exact⟨c,r,rfl,hd c (.head _)⟩
 |i+2,_=>by
  obtain⟨c,r,h1,h2⟩:=yh k (i+1) ae;refine⟨c,r++(if 0<i+1 then [46]else [])++dQ (k.mG[i+1]!).toNat, ?_,h2⟩;show gD k (i+1)++_++_=_;rw[h1];simp
def Hv {c:cZ}(h:lJ c=true)(h9:c.op≠9):0<c.parts.toNat:=by
 simp only[lJ,bh,aS]at h;have:=h.1.1.1.2;rw[aj h9]at this;omega
def Io {s:aq}{o:Int}(h:pY s 0=some o):1<=o/\o<=8/\∃x t,s=x::t/\¬vg x/\(x=94->o=7):=by
 have hm:=List.mem_of_find?_eq_some h;have hb:=List.find?_some h;simp only[qh,bh,aS]at hb;obtain⟨h1,h2⟩:=hb;have hne:s≠[]\/dm o=[]:=by
  by_cases e:s=[]
  ·right;subst e;simpa using h1
  ·exact .inl e
 simp only[opsL,bR,dr,gw,or_false]at hm;have key:∀w:aq,w≠[]->s.take w.length=w->∃x t t',s=x::t/\w=x::t':=by
  intro w hw hs
  match w,hw with
  |x::t',_=>
   match s with
   |[]=>simp at hs
   |y::t=>
    simp only[ax,List.take_succ_cons,jq]at hs;exact⟨x,t,t',by rw[hs.1],rfl⟩
 rcases hm with rfl|rfl|rfl|rfl|rfl|rfl|rfl|rfl
 all_goals
  refine⟨ae,ae, ?_⟩;obtain⟨x,t,t',e1,e2⟩:=key _ aF h2;have hxx:=ak (fun w:aq=>w.headD 0) e2;simp only[List.headD_cons]at hxx;refine⟨x,t,e1, ?_, ?_⟩
  ·rw[<-hxx];unfold vg;decide
  ·rw[<-hxx];decide
def yi (t:aq):pY (94::t) 0=some 7:=by
 unfold pY opsL;have hn:∀w:aq,w≠[]->w.headD 0≠94->qh (94::t) w=false:=by
  intro w hw hx
  match w,hw with
  |x::r,_=>
   unfold qh;rw[dt];right;rw[bj];intro h;simp only[ax,List.take_succ_cons,jq]at h;exact hx h.1.symm
 have hy:qh (94::t) (dm 7)=true:=by
  unfold qh;rw[show dm 7=[94]by decide];simp
 simp only[bR,List.find?_cons,hn _ (show dm 2≠[]by decide) aF,hn _ (show dm 4≠[]by decide) aF,hn _ (show dm 6≠[]by decide) aF,hn _ (show dm 1≠[]by decide) aF,
  hn _ (show dm 3≠[]by decide) aF,hn _ (show dm 5≠[]by decide) aF,hy]
def Dk (t:aq):dD (94::t)=(7,t):=by
 simp only[dD,yi];rw[show dm 7=[94]by decide];rfl
def yO (b:Int):∀(s cur:aq),∃r l,cy b s cur=(cur++r)::l
 |[],cur=>⟨[],[],by simp[cy]⟩
 |c::s,cur=>by
  simp only[cy];split
  ·exact⟨[],_,by rw[gI]⟩
  ·obtain⟨r,l,h⟩:=yO b s (cur++[c]);exact⟨c::r,l,by rw[h];simp⟩
def IP {x:UInt8}{t:aq}(h:¬vg x):e8 (ai (hZ (x::t) 0).1 46)=false:=by
 have hx:x≠45/\x≠46/\bB x.toNat=false:=by
  refine⟨?_, ?_, ?_⟩
  ·rintro rfl;exact h (by unfold vg;decide)
  ·rintro rfl;exact h (by unfold vg;decide)
  ·cases hd:bB x.toNat with
   |false=>rfl
   |true=>exact absurd (qE hd).1 h
 have hp:∃r,(hZ (x::t) 0).1=x::r:=by
  unfold hZ;rw[bR,List.findIdx?_cons];rw[aj (by simpa using hx.1)];cases t.findIdx? (fun c=>c==45)with
  |none=>exact⟨t,rfl⟩
  |some k=>exact⟨t.take k,aN⟩
 obtain⟨r,hr⟩:=hp;rw[hr];have h46:¬((x.toNat:Int)=46):=fun e=>hx.2.1 (jo.1 (by show x.toNat=46;omega))
 obtain⟨q,l,hs⟩:=yO 46 r [x];have e:ai (x::r) 46=(x::q)::l:=by
  unfold ai;simp only[cy];rw[aj h46];simpa using hs
 rw[e];unfold e8;rw[dt];right;rw[aX aN];have hn:fo ((x::q)::l)[0]! =false:=by
  show fo (x::q)=false;rw[E2];rw[aX aN];have:bB (at8 (x::q) 0)=false:=by simpa[at8]using hx.2.2
  rw[this];simp
 rw[hn];rfl
def OL {s:aq}(h:gv s=dD s):ef s=if vU s (dD s).1 (eB s) (eZ s).2=true then some (eP s)else none:=by
 unfold ef;simp only[h];rfl
def yx {s:aq}:gM s=if ot s/\e8 (eB s)=true/\lJ (eP s)=true/\dN (eP s)=s then some (eP s)else none:=rfl
def It {s:aq}(h:∀c∈s,c≠45):hZ s 0=(s,[]):=by
 unfold hZ;rw[bR,List.findIdx?_eq_none_iff.2 (fun c hc=>by simpa using h c hc)]
def AP {k:cZ}(hb:lJ k=true)(h9:k.op=9):mz k=bc [46] (mJ k++[[42]]):=by
 obtain⟨_,h0,h3,_,_⟩:=oV hb;rw[vB h0 h3];unfold mz lF;rw[av h9,h9];rfl
def rD {k:cZ}{w:aq}(h:w∈mJ k++[[42]]){c:UInt8}(hc:c∈w):bB c.toNat=true\/c=42:=by
 rcases List.mem_append.1 h with h|h
 ·have:=m8 h;obtain⟨n,_,rfl⟩:=fQ.1 this;exact .inl (qC _ c hc)
 ·obtain rfl:=cK.1 h;exact .inr (cK.1 hc)
def AO {k:cZ}{s:aq}(hb:lJ k=true)(h9:k.op=9)(hs:mz k=s):(0<s.length/\at8 s (s.length-1)=42)/\hZ s 0=(s,[])/\ai s 46=mJ k++[[42]]:=by
 have ht:=AP hb h9;obtain⟨_,h0,h3,_,_⟩:=oV hb;rw[hs]at ht;have hch:∀c∈s,bB c.toNat=true\/c=42\/c=46:=by
  intro c hc;rw[ht]at hc;rcases rU 46 _ c hc with h|⟨w,hw,hcw⟩
  ·exact .inr (.inr h)
  ·rcases rD hw hcw with h|h
   ·exact .inl h
   ·exact .inr (.inl h)
 refine⟨?_,It (fun c hc=>?_), ?_⟩
 ·have he:∃q,s=q++[42]:=by
   rw[ht,vB h0 h3];exact⟨gD k k.parts.toNat++(if 0<k.parts then [46]else []),by rw[dG]⟩
  obtain⟨q,rfl⟩:=he;simp[at8]
 ·rintro rfl;rcases hch 45 hc with h|h|h
  ·revert h;decide
  ·revert h;decide
  ·revert h;decide
 ·rw[ht];refine v8 (b:=46) (x:=46) rfl aN fun w hw c hc=>?_
  rcases rD hw hc with h|h
  ·have:=(JW h).1;omega
  ·rw[h];decide
def xu {k:cZ}{s:aq}(hb:lJ k=true)(h7:k.op=7)(hs:mz k=94::s):(∀c∈s,c≠42)/\∃c r,s=c::r/\bB c.toNat=true:=by
 have hp:=Hv hb ae;have e:s=gD k k.parts.toNat++lF k:=by
  unfold mz at hs;rw[h7,show dm 7=[94]by decide]at hs;simpa using hs.symm
 obtain⟨c,r,h1,h2⟩:=yh k _ hp;refine⟨fun c hc=>?_,c,r++lF k,by rw[e,h1];rfl,h2⟩;rw[e]at hc;rcases List.mem_append.1 hc with hc|hc
 ·rcases Db _ c hc with h|h
  ·exact(qE h).2
  ·rw[h];decide
 ·unfold lF at hc;rw[aj ae]at hc;split at hc
  ·cases hc
  ·rcases dr.1 hc with rfl|hc
   ·decide
   ·have hv:=(oV hb).1;simp only[iW,bh]at hv;rcases LO hv.1.2 hc with h|h
    ·rintro rfl;revert h;decide
    ·rw[h];decide
def wX {s:aq}:vU s (dD s).1 (eB s) (eZ s).2=true↔e8 (eB s)=true/\dN (eP s)≠[]/\(dN (eP s)=s\/dN (eP s)=94::s):=Bz
def JP (s:aq):lA s=ef s:=by
 have hcar:dD (94::s)=(7,s):=Dk s;have hL7:eB (94::s)=ai (hZ s 0).1 46:=by
  unfold eB eZ;rw[hcar];rfl
 have hK7:eP (94::s)=gA 7 (ai (hZ s 0).1 46) (hZ s 0).2:=by
  unfold eP;rw[hL7];unfold eZ;rw[hcar]
 cases ho:pY s 0 with
 |some o=>
  obtain⟨o1,o8,x,t,hs,hx,hx94⟩:=Io ho;have hrw:dD s=(o,s.drop (dm o).length):=by simp only[dD,ho]
  have hsp:gv s=dD s:=by rw[hrw];simp only[gv,ho]
  have hstar:ot s:=by
   intro h;rw[hrw]at h;simp only at h;omega
  have hcn:gM (94::s)=none:=kR fun h=>by
   have:=h.2.1;rw[hL7,hs,IP hx]at this;cases this
  have hop:(eP s).op=o:=by show(dD s).1=o;rw[hrw]
  rw[OL hsp];by_cases hk:e8 (eB s)=true/\dN (eP s)=s
  ·have hne:dN (eP s)≠[]:=by rw[hk.2,hs];simp
   have hb:=(rN hne).1;have hr:gM s=some (eP s):=by rw[yx,av ⟨hstar,hk.1,hb,hk.2⟩]
   have hok:vU s (dD s).1 (eB s) (eZ s).2=true:=wX.2 ⟨hk.1,hne,.inl hk.2⟩;rw[av hok];unfold lA;rw[hr];rfl
  ·have hr:gM s=none:=kR fun h=>hk ⟨h.2.1,h.2.2.2⟩
   have hok:¬vU s (dD s).1 (eB s) (eZ s).2=true:=fun h=>by
    obtain⟨h1,h2,h3⟩:=wX.1 h;rcases h3 with h3|h3
    ·exact hk ⟨h1,h3⟩
    ·obtain⟨hb,he⟩:=rN h2;have h3':mz (eP s)=94::s:=by rw[<-he];exact h3
     have h7:o=7:=by
      have hh:∃y w,dm o=y::w/\(y=94->o=7):=by
       have:o=1\/o=2\/o=3\/o=4\/o=5\/o=6\/o=7\/o=8:=ae;rcases this with rfl|rfl|rfl|rfl|rfl|rfl|rfl|rfl
       ·exact⟨61,[],aF,aF⟩
       ·exact⟨33,[61],aF,aF⟩
       ·exact⟨60,[],aF,aF⟩
       ·exact⟨60,[61],aF,aF⟩
       ·exact⟨62,[],aF,aF⟩
       ·exact⟨62,[61],aF,aF⟩
       ·exact⟨94,[],aF,aF⟩
       ·exact⟨126,[],aF,aF⟩
      obtain⟨y,w,e1,e2⟩:=hh;unfold mz at h3';rw[hop,e1]at h3';simp only[fu,jq]at h3';exact e2 h3'.1
     obtain⟨_,c,r,e1,e2⟩:=xu hb (by rw[hop];exact h7) h3';rw[hs]at e1;simp only[jq]at e1;rw[<-e1.1]at e2;exact hx (qE e2).1
   rw[aj hok];unfold lA;rw[hr,aj aN,hcn]
 |none=>
  have hrw:dD s=(9,s):=by simp only[dD,ho]
  have h94:∀t,s≠94::t:=by
   rintro t rfl;rw[yi]at ho;cases ho
  have hop:(eP s).op=9:=by show(dD s).1=9;rw[hrw]
  have hst7:ot (94::s):=by
   intro h;rw[hcar]at h;simp only at h;omega
  by_cases hl:0<s.length/\at8 s (s.length-1)=42
  ·have hsp:gv s=dD s:=by rw[hrw];simp only[gv,ho,av hl]
   have hcn:gM (94::s)=none:=kR fun h=>by
    obtain⟨_,h2,h3,h4⟩:=h;have he:=(rN (c:=eP (94::s)) (by rw[h4];simp)).2;rw[h4]at he;have hno:=(xu h3 (by rw[hK7];rfl) he.symm).1;have hmem:s[s.length-1]'(ae)∈s:=List.getElem_mem _;refine hno _ hmem (jo.1 ?_);have:=hl.2;rw[Ba s _ ae]at this;show _=42;omega
   rw[OL hsp];by_cases hk:e8 (eB s)=true/\dN (eP s)=s
   ·have hne:dN (eP s)≠[]:=by
     rw[hk.2];intro h;rw[h]at hl;simp at hl
    obtain⟨hb,he⟩:=rN hne;obtain⟨_,g2,g3⟩:=AO (s:=s) hb hop (he.symm.trans hk.2);have hstar:ot s:=by
     intro _;have hP:eZ s=(s,[]):=by unfold eZ;rw[hrw];exact g2
     rw[hP];simp only;rw[g3];simp
    have hr:gM s=some (eP s):=by rw[yx,av ⟨hstar,hk.1,hb,hk.2⟩]
    have hok:vU s (dD s).1 (eB s) (eZ s).2=true:=wX.2 ⟨hk.1,hne,.inl hk.2⟩;rw[av hok];unfold lA;rw[hr];rfl
   ·have hr:gM s=none:=kR fun h=>hk ⟨h.2.1,h.2.2.2⟩
    have hok:¬vU s (dD s).1 (eB s) (eZ s).2=true:=fun h=>by
     obtain⟨h1,h2,h3⟩:=wX.1 h;rcases h3 with h3|h3
     ·exact hk ⟨h1,h3⟩
     ·obtain⟨hb,he⟩:=rN h2;have h3':mz (eP s)=94::s:=by rw[<-he];exact h3
      have ht:=AP hb hop;rw[h3']at ht;have hm:(94:UInt8)∈bc [46] (mJ (eP s)++[[42]]):=by rw[<-ht];simp
      rcases rU 46 _ _ hm with h|⟨w,hw,hcw⟩
      ·revert h;decide
      ·rcases rD hw hcw with h|h
       ·revert h;decide
       ·revert h;decide
    rw[aj hok];unfold lA;rw[hr,aj aN,hcn]
  ·have hsp:gv s=(7,s):=by simp only[gv,ho,aj hl]
   have hr:gM s=none:=kR fun h=>by
    obtain⟨h1,h2,h3,h4⟩:=h;have he:mz (eP s)=s:=(av h3:dN (eP s)=mz (eP s)).symm.trans h4;exact hl (AO h3 hop he).1
   have h6:ef s=if vU s 7 (ai (hZ s 0).1 46) (hZ s 0).2=true then some (eP (94::s))else none:=by
    unfold ef;simp only[hsp];rw[hK7];rfl
   have hRC:lA s=gM (94::s):=by
    unfold lA;rw[hr];rfl
   rw[hRC,h6,yx];by_cases hok:vU s 7 (ai (hZ s 0).1 46) (hZ s 0).2=true
   ·rw[av hok];obtain⟨h1,h2,h3⟩:=Bz.1 hok;obtain⟨hb,he⟩:=rN h2;rcases h3 with h3|h3
    ·exfalso;rw[he]at h3;have hh:∃w,mz (gA 7 (ai (hZ s 0).1 46) (hZ s 0).2)=94::w:=by
      unfold mz;exact⟨_,rfl⟩
     obtain⟨w,hw⟩:=hh;exact h94 w (by rw[<-h3,hw])
    ·rw[av ⟨hst7,by rw[hL7];exact h1,by rw[hK7];exact hb,by rw[hK7];exact h3⟩]
   ·rw[aj hok,aj];rintro⟨_,g2,g3,g4⟩;rw[hK7]at g3 g4;rw[hL7]at g2;exact hok (Bz.2 ⟨g2,by rw[g4];simp,.inr g4⟩)
abbrev Alt:=List cZ
abbrev sy:=List Alt
def qw (a:Alt):D:=.sl 7 (a.map cZ.D)
def Em (a:Alt):(qw a).bG=true:=rfl
def oy (l k:Nat)(es:List D)(r:List Alt):iK l k es (r.map qw)=r.map qw:=pR l k es _ (bJ Em _)
def eL (r:sy):D:=.agg [.sl 1 (r.map qw)]
def kI (a:Alt):Bool:=decide (1<=a.length)&&decide (a.length<=6)&&cO (fun k=>lJ a[k]!) 0 a.length
def jy (r:sy):Bool:=decide (1<=r.length)&&decide (r.length<=6)&&cO (fun i=>kI r[i]!) 0 r.length
def jH (a:Alt):aq:=bc [44,32] (a.map dN)
def yI (r:sy):aq:=bc [32,124,124,32] (r.map jH)
def cZ.lo (c:cZ):Prop:=c.v.pre.length<=1000/\c.v.build.length<=1000
def cZ.lo.sm {c:cZ}(h:c.lo):c.v.sm:=⟨cW h.1 aF,cW h.2 aF⟩
def iS (r:sy):Prop:=∀a∈r,∀c∈a,c.lo
def sw (b:aq)(l:List aq)(i:Nat):aq:=if 0<i then bc b (l.take i)++b else []
def uT (b:aq)(l:List aq)(i:Nat)(h:i<l.length):bc b (l.take (i+1))=sw b l i++l[i]! :=pT b l i h
def KZ (b:aq)(l:List aq){i:Nat}(h:¬0<i):bc b (l.take i)=sw b l i:=by
 obtain rfl:i=0:=ae;simp[sw,bc]
def xw {c:cZ}(h:c.lo):(dN c).length<=1100:=by
 unfold dN;split
 ·rename_i hb;obtain⟨hv,h0,h3,_⟩:=oV hb;have h1:=vw c.op;have h2:=rZ hv c.parts.toNat;have ht:(lF c).length<=1001:=by
   unfold lF;have:=h.1;split
   ·split<;>simp
   ·split
    ·simp
    ·simp only[ax];omega
  simp only[mz,bE];omega
 ·simp
def qS (b:aq)(M:Nat):∀(l:List aq),(∀t∈l,t.length<=M)->(bc b l).length<=l.length*(M+b.length)
 |[],_=>by simp[bc]
 |[t],h=>by
  have:=h t (.head _);simp only[bc,List.length_singleton,Nat.one_mul];omega
 |t::u::r,h=>by
  have h1:=h t (.head _);have h2:=qS b M (u::r) fun x hx=>h x (.tail _ hx)
  simp only[bc,bE];simp only[ax,Nat.add_mul,Nat.one_mul]at h2⊢;omega
def Bv {α β:Type} [Inhabited α] [Inhabited β](f:α->β)(l:List α){i:Nat}(h:i<l.length):(l.map f)[i]! =f l[i]! :=by
 simp[h]
def xi {a:Alt}(h:∀c∈a,c.lo)(hl:a.length<=6):(jH a).length<=6612:=by
 have:=qS [44,32] 1100 (a.map dN) (fun t ht=>by
  obtain⟨c,hc,rfl⟩:=fQ.1 ht;exact xw (h c hc))
 simp only[bI]at this;have h2:a.length*(1100+([44,32]:aq).length)<=6*1102:=Nat.mul_le_mul hl aF;unfold jH;omega
def xA {r:sy}(h:jy r=true){i:Nat}(hi:i<r.length):kI r[i]! =true:=by
 simp only[jy,bh,aS]at h;exact eE.1 h.2 i ae hi
def uA {a:Alt}(h:kI a=true):1<=a.length/\a.length<=6:=by
 simp only[kI,bh,aS]at h;exact h.1
def LG {r:sy}(h:jy r=true)(hs:iS r):(yI r).length<=40000:=by
 have h6:r.length<=6:=by simp only[jy,bh,aS]at h;exact h.1.2
 have:=qS [32,124,124,32] 6612 (r.map jH) (fun t ht=>by
  obtain⟨a,ha,rfl⟩:=fQ.1 ht;obtain⟨i,hi,rfl⟩:=List.mem_iff_getElem.1 ha;have h1:=xA h hi;rw[show r[i]! =r[i]by simp[hi]]at h1;exact xi (hs _ ha) (uA h1).2)
 simp only[bI]at this;have h2:r.length*(6612+([32,124,124,32]:aq).length)<=6*6616:=Nat.mul_le_mul h6 aF;unfold yI;omega
def iI {α β:Type} [Inhabited α](f:α->β)(l:List α){i:Nat}(h:i<l.length):(l.map f).take (i+1)=(l.map f).take i++[f l[i]!]:=by
 rw[List.take_add_one];simp[h]
def qn (r:sy):Bool:=jy r&&decide ((yI r).length<=96)
def ru (r:sy):aq:=if qn r=true then yI r else []
def aL:aq->aq->List aq
 |[],cur=>[cur]
 |[c],cur=>[cur++[c]]
 |c::d::r,cur=>if c=124/\d=124 then cur::aL r []else aL (d::r) (cur++[c])
def kJ:aq->aq
 |[]=>[]
 |c::r=>if c=32 then kJ r else c::r
def ee (s:aq):aq:=(kJ (kJ s).reverse).reverse
def oR:∀s,(kJ s).length<=s.length
 |[]=>aM _
 |c::r=>by
  unfold kJ;split
  ·have:=oR r;simp only[ax];omega
  ·exact aM _
def uD (s:aq):(ee s).length<=s.length:=by
 have h1:=oR s;have h2:=oR (kJ s).reverse;simp only[List.length_reverse]at h2;simp only[ee,List.length_reverse];omega
def oo:∀(s cur:aq),(aL s cur).length<=s.length+1/\(∀t∈aL s cur,t.length<=cur.length+s.length)
 |[],cur=>by simp[aL]
 |[c],cur=>by simp[aL]
 |c::d::r,cur=>by
  unfold aL;split
  ·have:=oo r [];refine⟨by simp only[ax];omega,fun t ht=>?_⟩;rcases dr.1 ht with rfl|ht
   ·simp
   ·have:=this.2 t ht;simp only[az,ax]at this⊢;omega
  ·have:=oo (d::r) (cur++[c]);refine⟨by have:=this.1;simp only[ax]at this⊢;omega,fun t ht=>?_⟩;have:=this.2 t ht;simp only[bE,ax,az]at this⊢;omega
def U7 (t:aq):Bool:=cO (fun k=>(ef (ee (ai t 44)[k]!)).isSome) 0 (ai t 44).length
def yH (s:aq):Bool:=cO (fun i=>U7 (aL s [])[i]!) 0 (aL s []).length
def mR (t:aq):Alt:=(ai t 44).map fun x=>(ef (ee x)).getD dZ
def iC (s:aq):sy:=(aL s []).map mR
def gF (s:aq):sy×Int:=
 if 96<s.length then([],3)else if yH s=false then([],6)else if jy (iC s)=false then([],6)else if 96<(yI (iC s)).length then([],3)else(iC s,0)
def nF (s:aq):Bool:=decide ((gF s).2=0)&&decide (ru (gF s).1=s)
def JO {s:aq}(h:s.length<=1000):((ef s).getD dZ).lo:=by
 unfold ef;simp only;split
 ·have h1:=yM s;have h2:=yq (gv s).2;exact⟨by show(hZ (gv s).2 0).2.length<=1000;omega,by show([]:aq).length<=1000;decide⟩
 ·exact⟨by show([]:aq).length<=1000;decide,by show([]:aq).length<=1000;decide⟩
def BW {s:aq}(h:s.length<=1000):iS (iC s):=by
 intro a ha c hc;obtain⟨t,ht,rfl⟩:=fQ.1 ha;obtain⟨x,hx,rfl⟩:=fQ.1 hc;have h1:=(oo s []).2 t ht;have h2:=en t 44 hx;have h3:=uD x;simp only[az]at h1;exact JO ae
def G4 {s:aq}:iS (gF s).1/\((gF s).2=0->jy (gF s).1=true):=by
 unfold gF;split
 ·exact⟨(fun a ha=>by cases ha),fun h=>by cases h⟩
 ·split
  ·exact⟨(fun a ha=>by cases ha),fun h=>by cases h⟩
  ·split
   ·exact⟨(fun a ha=>by cases ha),fun h=>by cases h⟩
   ·rename_i hf;split
    ·exact⟨(fun a ha=>by cases ha),fun h=>by cases h⟩
    ·exact⟨BW ae,fun _=>by simpa using hf⟩
def FH {s:aq}{i:Nat}(cur:aq)(h:i+1<s.length)(h1:at8 s i=124)(h2:at8 s (i+1)=124):aL (s.drop i) cur=cur::aL (s.drop (i+2)) []:=by
 rw[mi s i ae,mi s (i+1) h];have e1:s.getD i 0=124:=jo.1 (by simp only[at8]at h1;show(s.getD i 0).toNat=124;omega);have e2:s.getD (i+1) 0=124:=jo.1 (by simp only[at8]at h2;show(s.getD (i+1) 0).toNat=124;omega);rw[e1,e2];simp only[aL,cr,aH]
def DR {s:aq}{i:Nat}(cur:aq)(h:i+1<s.length)(hn:¬(at8 s i=124/\at8 s (i+1)=124)):aL (s.drop i) cur=aL (s.drop (i+1)) (cur++[s.getD i 0]):=by
 rw[mi s i ae,mi s (i+1) h];simp only[aL];rw[aj];rintro⟨e1,e2⟩;exact hn ⟨by simp only[at8,e1];rfl,by simp only[at8,e2];rfl⟩
def FG {s:aq}{i:Nat}(cur:aq)(h:s.length<=i+1):aL (s.drop i) cur=[cur++s.drop i]:=by
 have hl:(s.drop i).length<=1:=by rw[jn];omega
 match s.drop i,hl with
 |[],_=>simp[aL]
 |[c],_=>simp[aL]
def JS {s:aq}{i fr:Nat}(h:i<s.length)(hf:fr<=i):(s.take i).drop fr++[s.getD i 0]=(s.take (i+1)).drop fr:=by
 rw[List.take_add_one,List.drop_append_of_le_length (by rw[dq];omega)];simp[h]
def sA (s:aq)(i fr:Nat)(acc:List aq):Prop:=aL s []=acc++aL (s.drop (max i fr)) ((s.take (max i fr)).drop fr)
def Ho {s:aq}{i fr:Nat}{acc:List aq}(hI:sA s i fr acc)(h:i+1<s.length)(hc:(at8 s i=124/\at8 s (i+1)=124)/\(fr:Int)<=i):sA s (i+1) (i+2) (acc++[(s.take i).drop fr]):=by
 unfold sA at hI⊢;rw[hI,Nat.max_eq_left ae,FH _ h hc.1.1 hc.1.2,Nat.max_eq_right ae,show(s.take (i+2)).drop (i+2)=[]from mg (by rw[dq];omega)];simp
def JA {s:aq}{i fr:Nat}{acc:List aq}(hI:sA s i fr acc)(h:i+1<s.length)(hf:fr<=i+1)(hc:(¬at8 s i=124\/¬at8 s (i+1)=124)\/¬(fr:Int)<=i):sA s (i+1) fr acc:=by
 unfold sA at hI⊢;by_cases hl:fr<=i
 ·rw[hI,Nat.max_eq_left hl,DR _ h (by rcases hc with(hc|hc)|hc;exact fun h=>hc h.1;exact fun h=>hc h.2;omega),Nat.max_eq_left ae,JS ae hl]
 ·rw[hI,Nat.max_eq_right ae,Nat.max_eq_right ae]
def Hn {s:aq}{i fr:Nat}{acc:List aq}(hI:sA s i fr acc)(h:s.length<=i+1)(hl:fr<=s.length):aL s []=acc++[s.drop fr]:=by
 unfold sA at hI;rw[hI,FG _ (by have:=Nat.le_max_left i fr;omega)];congr 2
 conv=>rhs;rw[<-List.take_append_drop (max i fr) s]
 by_cases hm:max i fr<=s.length
 ·rw[List.drop_append_of_le_length (by rw[dq];have:=Nat.le_max_right i fr;omega)]
 ·rw[mg (by omega:s.length<=max i fr),gI,gI]
def zR {t:aq}(h:0<t.length)(h0:at8 t 0=32):kJ t=kJ (t.drop 1):=by
 match t,h with
 |c::r,_=>
  have:c=32:=jo.1 (by have h0:((c.toNat:Nat):Int)=32:=h0;show c.toNat=32;omega);subst this;simp[kJ]
def xl {t:aq}(h:¬(0:Int)<(t.length:Nat)\/¬at8 t 0=32):kJ t=t:=by
 match t with
 |[]=>rfl
 |c::r=>
  rcases h with h|h
  ·simp only[ax]at h;omega
  ·simp only[kJ];rw[aj];rintro rfl;exact h rfl
def xm (u:aq):aq:=(kJ u.reverse).reverse
def F4 {u:aq}(h:0<u.length):at8 u.reverse 0=at8 u (u.length-1):=by
 unfold at8;congr 2;rw[List.getD_eq_getElem?_getD,List.getD_eq_getElem?_getD,List.getElem?_reverse h,Nat.sub_zero]
def Hq {u:aq}(h:0<u.length)(h0:at8 u (u.length-1)=32):xm u=xm (u.take (u.length-1)):=by
 unfold xm;rw[zR (by simpa using h) (by rw[F4 h];exact h0)];congr 2;rw[List.drop_reverse]
def Er {u:aq}(h:¬(0:Int)<(u.length:Nat)\/¬at8 u (u.length-1)=32):xm u=u:=by
 unfold xm;by_cases hu:0<u.length
 ·rw[xl (by rw[F4 hu];rcases h with h|h;omega;exact Or.inr h)];simp
 ·have:u=[]:=oP.1 ae;subst this;rfl
def Nd.eq (a b:Nd):jb (Nd.D a).cells (Nd.D b).cells=decide (a=b):=by
 obtain⟨a1,a2,a3,a4,a5⟩:=a;obtain⟨b1,b2,b3,b4,b5⟩:=b;simp only[Nd.D,D.cells,jb,tK,wP,Nd.mk.injEq,iO];simp only[Bool.decide_and]
def jD (n:Nd):Bool:=decide (n.key=0)&&decide (n.text=[])
def oa (n:Nd):Bool:=decide (n.op=1)&&decide (0<=n.key)&&decide (n.key<3)&&cC n.text&&decide (n.a=0)&&decide (n.b=0)
def jk (n:Nd)(i:Nat)(o:List Int):Option (List Int):=
 if oa n=true then some (o++[(i:Int)])
 else if(((n.op=2/\jD n=true)/\0<o.length)/\n.a=o[o.length-1]!)/\n.b=0 then some (o.take (o.length-1)++[(i:Int)])
 else if((((n.op=3\/n.op=4)/\jD n=true)/\1<o.length)/\n.a=o[o.length-2]!)/\n.b=o[o.length-1]! then some (o.take (o.length-2)++[(i:Int)])
 else none
def nb:List Nd->Nat->List Int->Option (List Int)
 |[],_,o=>some o
 |n::r,i,o=>match jk n i o with
  |some o'=>nb r (i+1) o'
  |none=>none
def nr (l:List Nd):Bool:=match nb l 0 []with
 |some o=>decide (l.length=0) ||decide (o.length=1)
 |none=>false
def zX {α:Type} [Inhabited α](l:List α){i:Nat}(h:i<l.length):l.drop i=l[i]! ::l.drop (i+1):=by
 rw[jP h];simp[h]
def je {l:List Nd}{i:Nat}{o o':List Int}(h:i<l.length)(hs:jk l[i]! i o=some o'):nb (l.drop i) i o=nb (l.drop (i+1)) (i+1) o':=by
 rw[zX l h];simp only[nb,hs]
def gH {l:List Nd}{i:Nat}{o:List Int}(h:i<l.length)(hs:jk l[i]! i o=none):nb (l.drop i) i o=none:=by
 rw[zX l h];simp only[nb,hs]
def Ax {l:List Nd}{i:Nat}{o:List Int}(h:l.length<=i):nb (l.drop i) i o=some o:=by
 rw[mg h];rfl
def DY {l:List Nd}(h:nb l 0 []=none):nr l=false:=by simp only[nr,h]
def kC {l:List Nd}(h:nb l 0 []=none):(true&&nr l)=false:=by rw[DY h];rfl
def Cd (S:List Int):Int->List Int->Prop
 |e,[]=>e=0
 |e,t::r=>t=e-1/\0<=t/\0<=S[t.toNat]! /\S[t.toNat]! <=t/\Cd S S[t.toNat]! r
def Bf {S:List Int}{i:Nat}{v:Int}:∀{r:List Int}{e:Int},e<=i->Cd S e r->Cd (S.set i v) e r
 |[],e,_,h=>h
 |t::r,e,he,⟨h1,h2,h3,h4,h5⟩=>by
  have hg:(S.set i v)[t.toNat]! =S[t.toNat]! :=by
   have:i≠t.toNat:=ae;simp[List.getElem?_set,this]
  exact⟨h1,h2,by rw[hg];exact h3,by rw[hg];exact h4,by rw[hg];exact Bf ae h5⟩
def NW {S:List Int}{i:Nat}{v:Int}(h:i<S.length):(S.set i v)[i]! =v:=by
 simp[h]
def tD {S:List Int}{i:Nat}{v:Int}{r:List Int}(h:i<S.length)(h0:0<=v)(h1:v<=i)(hc:Cd S v r):Cd (S.set i v) ((i+1:Nat):Int) ((i:Int)::r):=by
 have hg:(S.set i v)[((i:Nat):Int).toNat]! =v:=by rw[Int.toNat_natCast];exact NW h
 exact⟨ae,ae,by rw[hg];exact h0,by rw[hg];exact h1,by rw[hg];exact Bf ae hc⟩
def tE {S:List Int}{i:Nat}{o:List Int}(h:Cd S (i:Nat) o.reverse):(0<o.length↔1<=i)/\(1<=i->o[o.length-1]! =(i:Int) -1/\0<=S[i-1]! /\S[i-1]! <=(i:Int) -1/\Cd S S[i-1]! (o.take (o.length-1)).reverse):=by
 rcases List.eq_nil_or_concat o with rfl|⟨p,t,rfl⟩
 ·have h:((i:Nat):Int)=0:=h;exact⟨⟨fun h=>absurd h aN,fun h2=>ae⟩,fun h2=>ae⟩
 ·rw[List.concat_eq_append,List.reverse_append,List.reverse_singleton,List.singleton_append]at h;obtain⟨h1,h2,h3,h4,h5⟩:=h;have ht:t.toNat=i-1:=ae;rw[ht]at h3 h4 h5;rw[List.concat_eq_append];refine⟨⟨fun _=>ae,fun _=>aN⟩,fun _=>⟨by simp[h1],h3,ae, ?_⟩⟩;rw[List.take_append_of_le_length aN,eK aN];exact h5
def Bg {S:List Int}{i:Nat}{o:List Int}(h:Cd S (i:Nat) o.reverse):(1<o.length↔1<=i/\1<=S[i-1]!)/\(1<o.length->o[o.length-2]! =S[i-1]! -1/\0<=S[(S[i-1]! -1).toNat]! /\S[(S[i-1]! -1).toNat]! <=S[i-1]! -1/\Cd S S[(S[i-1]! -1).toNat]! (o.take (o.length-2)).reverse):=by
 obtain⟨h1,h2⟩:=tE h;by_cases hi:1<=i
 ·obtain⟨g1,g2,g3,g4⟩:=h2 hi;have hl:=h1.2 hi;rcases List.eq_nil_or_concat o with rfl|⟨p,t,rfl⟩
  ·simp at hl
  ·rw[List.concat_eq_append]at g4⊢;rw[List.take_append_of_le_length aN,eK aN]at g4;rcases List.eq_nil_or_concat p with rfl|⟨q,u,rfl⟩
   ·have g4:S[i-1]! =0:=g4;exact⟨⟨fun h=>absurd h aN,fun h=>ae⟩,fun h=>absurd h aN⟩
   ·rw[List.concat_eq_append]at g4⊢;rw[List.reverse_append,List.reverse_singleton,List.singleton_append]at g4;obtain⟨k1,k2,k3,k4,k5⟩:=g4;subst k1;refine⟨⟨fun _=>⟨hi,ae⟩,fun _=>aN⟩,fun _=>⟨aN,k3,k4, ?_⟩⟩;rw[dG,List.take_append_of_le_length aN,eK aN];exact k5
 ·have:¬0<o.length:=fun h=>hi (h1.1 h)
  exact⟨⟨fun h=>ae,fun h=>absurd h.1 hi⟩,fun h=>ae⟩
def LW {S:List Int}{n:Nat}{o:List Int}(t1:0<o.length↔1<=n)(t2:1<=n->o[o.length-1]! =(n:Int) -1/\0<=S[n-1]! /\S[n-1]! <=(n:Int) -1/\Cd S S[n-1]! (o.take (o.length-1)).reverse)(u1:1<o.length↔1<=n/\1<=S[n-1]!):
  (decide (n=0) ||decide (o.length=1))=(decide ((n:Nat)=(0:Int)) ||decide (S[n-1]! =0)):=by
 rw[Bool.eq_iff_iff];simp only[cR,aS];constructor
 ·rintro(h|h)
  ·left;omega
  ·by_cases hn:1<=n
   ·have:=t2 hn;right;omega
   ·left;omega
 ·rintro(h|h)
  ·left;omega
  ·by_cases hn:1<=n
   ·right;omega
   ·left;omega
def xS {n:Nd}(h:oa n=true):n.op=1:=by simp only[oa,bh,aS]at h;exact h.1.1.1.1.1
def FK {n:Nd}{i:Nat}{o:List Int}(h:oa n=true):jk n i o=some (o++[(i:Int)]):=av h
def B0 {n:Nd}{i:Nat}{o:List Int}(h1:n.op=1)(h:oa n=false):jk n i o=none:=by
 unfold jk;rw[aj (by simp[h]),aj (by rintro⟨⟨⟨⟨h,_⟩,_⟩,_⟩,_⟩;omega),aj (by rintro⟨⟨⟨⟨h|h,_⟩,_⟩,_⟩,_⟩<;>omega)]
def DT {n:Nd}{i:Nat}{o:List Int}(h1:n.op≠1)(h2:n.op≠2)(h3:n.op≠3)(h4:n.op≠4):jk n i o=none:=by
 unfold jk;rw[aj (fun h=>h1 (xS h)),aj (by rintro⟨⟨⟨⟨h,_⟩,_⟩,_⟩,_⟩;exact h2 h),aj (by rintro⟨⟨⟨⟨h|h,_⟩,_⟩,_⟩,_⟩;exact h3 h;exact h4 h)]
def vA {S:List Int}{n:Nd}{i:Nat}{o:List Int}(hc:Cd S (i:Nat) o.reverse)(h2:n.op=2):jk n i o=if(1<=i/\n.a=(i:Int) -1/\n.b=0)/\jD n=true then some (o.take (o.length-1)++[(i:Int)])else none:=by
 obtain⟨t1,t2⟩:=tE hc;unfold jk;rw[aj (fun h=>by have:=xS h;omega)];by_cases hk:(1<=i/\n.a=(i:Int) -1/\n.b=0)/\jD n=true
 ·rw[av hk,av ⟨⟨⟨⟨h2,hk.2⟩,t1.2 hk.1.1⟩,by rw[(t2 hk.1.1).1];exact hk.1.2.1⟩,hk.1.2.2⟩]
 ·rw[aj hk,aj,aj (by rintro⟨⟨⟨⟨h|h,_⟩,_⟩,_⟩,_⟩<;>omega)];rintro⟨⟨⟨⟨_,g1⟩,g2⟩,g3⟩,g4⟩;have hi:=t1.1 g2;exact hk ⟨⟨hi,by rw[g3];exact(t2 hi).1,g4⟩,g1⟩
def nR {S:List Int}{n:Nd}{i:Nat}{o:List Int}(hc:Cd S (i:Nat) o.reverse)(h2:n.op=3\/n.op=4):jk n i o=if(2<=i/\n.b=(i:Int) -1/\1<=S[i-1]! /\n.a=S[i-1]! -1)/\jD n=true then some (o.take (o.length-2)++[(i:Int)])else none:=by
 obtain⟨t1,t2⟩:=tE hc;obtain⟨u1,u2⟩:=Bg hc;unfold jk;rw[aj (fun h=>by have:=xS h;omega),aj (by rintro⟨⟨⟨⟨h,_⟩,_⟩,_⟩,_⟩;omega)];by_cases hk:(2<=i/\n.b=(i:Int) -1/\1<=S[i-1]! /\n.a=S[i-1]! -1)/\jD n=true
 ·have hl:=u1.2 ⟨ae,hk.1.2.2.1⟩;rw[av hk,av ⟨⟨⟨⟨h2,hk.2⟩,hl⟩,by rw[(u2 hl).1];exact hk.1.2.2.2⟩,by rw[(t2 ae).1];exact hk.1.2.1⟩]
 ·rw[aj hk,aj];rintro⟨⟨⟨⟨_,g1⟩,g2⟩,g3⟩,g4⟩;obtain⟨hi,hS⟩:=u1.1 g2;obtain⟨w1,w2,w3,_⟩:=t2 hi;exact hk ⟨⟨ae,by rw[g4];exact w1,hS,by rw[g3];exact(u2 g2).1⟩,g1⟩
def gr (l:List Nd):Prop:=∀j,j<l.length->(l[j]!.op=1->0<=l[j]!.key/\l[j]!.key<3/\l[j]!.text.length<=12)/\(l[j]!.op≠1->0<=l[j]!.a/\l[j]!.a<j)/\(l[j]!.op≠1->l[j]!.op≠2->0<=l[j]!.b/\l[j]!.b<j)
def E5 {l:List Nd}:∀(k i:Nat)(o o':List Int),i+k=l.length->(∀x∈o,0<=x/\x<(i:Int))->nb (l.drop i) i o=some o'->
  ∀j,i<=j->j<l.length->(l[j]!.op=1->0<=l[j]!.key/\l[j]!.key<3/\l[j]!.text.length<=12)/\(l[j]!.op≠1->0<=l[j]!.a/\l[j]!.a<j)/\(l[j]!.op≠1->l[j]!.op≠2->0<=l[j]!.b/\l[j]!.b<j):=by
 intro k;induction k with
 |zero=>intro i o o' h1 h2 h3 j h4 h5;omega
 |succ k ih=>
  intro i o o' h1 h2 h3 j h4 h5;have hi:i<l.length:=ae;cases hs:jk l[i]! i o with
  |none=>rw[gH hi hs]at h3;cases h3
  |some o2=>
   rw[je hi hs]at h3;have hm:∀m,0<m->m<=o.length->0<=o[o.length-m]! /\o[o.length-m]! <(i:Int):=fun m hm1 hm2=>h2 _ (bM ae)
   have hsub:∀m,∀x∈o.take m++[(i:Int)],0<=x/\x<((i+1:Nat):Int):=fun m x hx=>by
    rcases List.mem_append.1 hx with hx|hx
    ·have:=h2 x (m8 hx);omega
    ·simp only[cK]at hx;omega
   unfold jk at hs;split at hs
   ·rename_i hl;cases hs;rcases fR i j with hj|hj
    ·exact ih (i+1) _ o' ae (by have:=hsub o.length;rwa [eK (aM _)]at this) h3 j hj h5
    ·obtain rfl:i=j:=ae;simp only[oa,bh,aS]at hl;have hw:=hl.1.1.2;simp only[cC,bh,aS]at hw;exact⟨fun _=>⟨hl.1.1.1.1.2,hl.1.1.1.2,hw.1.2⟩,fun h=>absurd hl.1.1.1.1.1 h,fun h=>absurd hl.1.1.1.1.1 h⟩
   ·split at hs
    ·rename_i hl;cases hs;rcases fR i j with hj|hj
     ·exact ih (i+1) _ o' ae (hsub _) h3 j hj h5
     ·obtain rfl:i=j:=ae;obtain⟨⟨⟨⟨g1,g2⟩,g3⟩,g4⟩,g5⟩:=hl;have:=hm 1 ae ae;exact⟨fun h=>ae,fun _=>by rw[g4];exact this,fun _ h=>absurd g1 h⟩
    ·split at hs
     ·rename_i hl;cases hs;rcases fR i j with hj|hj
      ·exact ih (i+1) _ o' ae (hsub _) h3 j hj h5
      ·obtain rfl:i=j:=ae;obtain⟨⟨⟨⟨g1,g2⟩,g3⟩,g4⟩,g5⟩:=hl;have q1:=hm 1 ae ae;have q2:=hm 2 ae ae;exact⟨fun h=>ae,fun _=>by rw[g4];exact q2,fun _ _=>by rw[g5];exact q1⟩
     ·cases hs
def p7 {l:List Nd}(h:nr l=true):gr l:=by
 unfold nr at h;cases ho:nb l 0 []with
 |none=>rw[ho]at h;cases h
 |some o=>exact fun j hj=>E5 l.length 0 [] o ae aN ho j (Nat.zero_le _) hj
def Hr (n:Nd)(o:List Int):Bool:=(((decide (n.op=2)&&(decide (n.key=0)&&decide (n.text=[])))&&decide ((0:Int)<(o.length:Nat)))&&decide (n.a=o[o.length-1]!))&&decide (n.b=0)
def Hs (n:Nd)(o:List Int):Bool:=((((decide (n.op=3) ||decide (n.op=4))&&(decide (n.key=0)&&decide (n.text=[])))&&decide ((1:Int)<(o.length:Nat)))&&decide (n.a=o[o.length-2]!))&&decide (n.b=o[o.length-1]!)
def xa (n:Nd)(i:Nat)(o:List Int):jk n i o=if oa n=true then some (o++[(i:Int)])else if Hr n o=true then some (o.take (o.length-1)++[(i:Int)])else if Hs n o=true then some (o.take (o.length-2)++[(i:Int)])else none:=by
 have e1:(Hr n o=true)=((((n.op=2/\jD n=true)/\0<o.length)/\n.a=o[o.length-1]!)/\n.b=0):=by
  simp only[Hr,jD,bh,aS,eq_iff_iff,Int.natCast_pos]
 have e2:(Hs n o=true)=(((((n.op=3\/n.op=4)/\jD n=true)/\1<o.length)/\n.a=o[o.length-2]!)/\n.b=o[o.length-1]!):=by
  simp only[Hs,jD,bh,cR,aS,eq_iff_iff];rw[show((1:Int)<(o.length:Nat))↔1<o.length from ae]
 simp only[jk,e1,e2]
def Gw {n:Nd}(h:n.op=1):oa n=!((((decide (n.key<0) ||decide (3<=n.key)) ||!cC n.text) ||!decide (n.a=0)) ||!decide (n.b=0)):=by
 simp only[oa,h,decide_true,fA];rw[show decide (n.key<0)=!decide (0<=n.key)from by rw[<-decide_not];exact ed.2 ae,show decide (3<=n.key)=!decide (n.key<3)from by rw[<-decide_not];exact ed.2 ae];generalize decide (0<=n.key)=a;generalize decide (n.key<3)=b;generalize cC n.text=c;generalize decide (n.a=0)=d;generalize decide (n.b=0)=e;cases a<;>cases b<;>cases c<;>cases d<;>cases e<;>rfl
def w9 {S:List Int}{i:Nat}(h:i<S.length)(v:Int):(S.map (D.int .i64)).set (0+i) (wG ((S.map (D.int .i64)).getD (0+i) .any) 1 1 0 (.int .i64 v))=(S.set i v).map (D.int .i64):=by
 rw[bK,getD_map (q:=D.int .i64) h,List.map_set];rfl
abbrev F1:=List Nd
def gT (m:F1):D:=.agg [.sl 5 (m.map Nd.D)]
def qf:List aq:=[[111,115],[97,114,99,104],[97,98,105]]
def sk (k:Int):aq:=if k=0 then [111,115]else if k=1 then [97,114,99,104]else [97,98,105]
def kE (s:aq)(b:Bool):aq:=if b=true then [40,32]++s++[32,41]else s
def rE (l:List Nd):Nat->Int->aq
 |0,_=>[]
 |f+1,i=>
  if l[i.toNat]!.op=1 then sk l[i.toNat]!.key++[32,61,32]++l[i.toNat]!.text
  else if l[i.toNat]!.op=2 then
   if l[l[i.toNat]!.a.toNat]!.op=1 then sk l[l[i.toNat]!.a.toNat]!.key++[32,33,61,32]++l[l[i.toNat]!.a.toNat]!.text
   else [110,111,116,32]++kE (rE l f l[i.toNat]!.a) (!decide (l[l[i.toNat]!.a.toNat]!.op=2))
  else if l[i.toNat]!.op=3 then kE (rE l f l[i.toNat]!.a) (decide (l[l[i.toNat]!.a.toNat]!.op=4))++[32,97,110,100,32]++kE (rE l f l[i.toNat]!.b) (decide (l[l[i.toNat]!.b.toNat]!.op=4) ||decide (l[l[i.toNat]!.b.toNat]!.op=3))
  else rE l f l[i.toNat]!.a++[32,111,114,32]++kE (rE l f l[i.toNat]!.b) (decide (l[l[i.toNat]!.b.toNat]!.op=4))
def kp (l:List Nd)(i:Int):aq:=rE l (i.toNat+1) i
def xd {l:List Nd}(hk:gr l):∀(f g:Nat)(i:Int),0<=i->i<l.length->i<f->i<g->rE l f i=rE l g i
 |0,_,_,_,_,h,_=>ae
 |_,0,_,_,_,_,h=>ae
 |f+1,g+1,i,h0,h1,h2,h3=>by
  obtain⟨k1,k2,k3⟩:=hk i.toNat ae;simp only[rE];by_cases e1:l[i.toNat]!.op=1
  ·rw[av e1,av e1]
  ·rw[aj e1,aj e1];have ka:=k2 e1;rw[xd hk f g l[i.toNat]!.a ae ae ae ae];by_cases e2:l[i.toNat]!.op=2
   ·rw[av e2,av e2]
   ·have kb:=k3 e1 e2;rw[xd hk f g l[i.toNat]!.b ae ae ae ae]
def Ha {l:List Nd}(hk:gr l){i:Int}(h0:0<=i)(h1:i<l.length):kp l i=
  if l[i.toNat]!.op=1 then sk l[i.toNat]!.key++[32,61,32]++l[i.toNat]!.text
  else if l[i.toNat]!.op=2 then
   if l[l[i.toNat]!.a.toNat]!.op=1 then sk l[l[i.toNat]!.a.toNat]!.key++[32,33,61,32]++l[l[i.toNat]!.a.toNat]!.text
   else [110,111,116,32]++kE (kp l l[i.toNat]!.a) (!decide (l[l[i.toNat]!.a.toNat]!.op=2))
  else if l[i.toNat]!.op=3 then kE (kp l l[i.toNat]!.a) (decide (l[l[i.toNat]!.a.toNat]!.op=4))++[32,97,110,100,32]++kE (kp l l[i.toNat]!.b) (decide (l[l[i.toNat]!.b.toNat]!.op=4) ||decide (l[l[i.toNat]!.b.toNat]!.op=3))
  else kp l l[i.toNat]!.a++[32,111,114,32]++kE (kp l l[i.toNat]!.b) (decide (l[l[i.toNat]!.b.toNat]!.op=4)):=by
 obtain⟨k1,k2,k3⟩:=hk i.toNat ae
 conv=>lhs;unfold kp
 simp only[rE];by_cases e1:l[i.toNat]!.op=1
 ·rw[av e1,av e1]
 ·rw[aj e1,aj e1];have ka:=k2 e1;rw[show rE l i.toNat l[i.toNat]!.a=kp l l[i.toNat]!.a from xd hk _ _ _ ae ae ae ae];by_cases e2:l[i.toNat]!.op=2
  ·rw[av e2,av e2]
  ·have kb:=k3 e1 e2;rw[show rE l i.toNat l[i.toNat]!.b=kp l l[i.toNat]!.b from xd hk _ _ _ ae ae ae ae]
def nU (s:aq)(b:Bool):(kE s b).length<=s.length+4:=by
 unfold kE;split<;>simp
def rV {k:Int}(h0:0<=k)(h3:k<3):qf[k.toNat]! =sk k:=by
 obtain rfl|rfl|rfl:k=0\/k=1\/k=2:=ae
 ·rfl
 ·rfl
 ·rfl
def Km {k:Int}(h0:0<=k)(h3:k<3):pe (([.str [111,115],.str [97,114,99,104],.str [97,98,105]]:List D).getD (0+k.toNat) .any) 1 1 0 false=.str (sk k):=by
 obtain rfl|rfl|rfl:k=0\/k=1\/k=2:=ae
 ·rfl
 ·rfl
 ·rfl
def pd (k:Int):(sk k).length<=4:=by
 unfold sk;split
 ·decide
 ·split<;>decide
def yU {l:List Nd}(hk:gr l):∀(f:Nat)(i:Int),0<=i->i<l.length->(rE l f i).length+20<=20*2^(f+1)
 |0,i,_,_=>by simp[rE]
 |f+1,i,h0,h1=>by
  obtain⟨k1,k2,k3⟩:=hk i.toNat ae;have hp:20*2^(f+1+1)=20*2^(f+1)+20*2^(f+1):=by rw[Nat.pow_succ 2 (f+1)];omega
  have h1p:1<=2^(f+1):=Nat.one_le_two_pow;simp only[rE];by_cases e1:l[i.toNat]!.op=1
  ·rw[av e1];have:=pd l[i.toNat]!.key;have:=k1 e1;simp only[bE,ax,az];omega
  ·rw[aj e1];have ka:=k2 e1;have la:=yU hk f l[i.toNat]!.a ae ae;have wa:=fun b=>nU (rE l f l[i.toNat]!.a) b
   by_cases e2:l[i.toNat]!.op=2
   ·rw[av e2];split
    ·rename_i e3;have:=pd l[l[i.toNat]!.a.toNat]!.key;have:=((hk l[i.toNat]!.a.toNat ae).1 e3).2.2;simp only[bE,ax,az];omega
    ·have:=wa (!decide (l[l[i.toNat]!.a.toNat]!.op=2));simp only[bE,ax,az];omega
   ·rw[aj e2];have kb:=k3 e1 e2;have lb:=yU hk f l[i.toNat]!.b ae ae;have wb:=fun b=>nU (rE l f l[i.toNat]!.b) b
    split
    ·have:=wa (decide (l[l[i.toNat]!.a.toNat]!.op=4));have:=wb (decide (l[l[i.toNat]!.b.toNat]!.op=4) ||decide (l[l[i.toNat]!.b.toNat]!.op=3));simp only[bE,ax,az];omega
    ·have:=wb (decide (l[l[i.toNat]!.b.toNat]!.op=4));simp only[bE,ax,az];omega
def rH {l:List Nd}(hk:gr l)(hl:l.length<=15){i:Int}(h0:0<=i)(h1:i<l.length):(kp l i).length<=1310720:=by
 have h:=yU hk (i.toNat+1) i h0 h1;have:2^(i.toNat+1+1)<=2^16:=Nat.pow_le_pow_right ae ae;unfold kp;omega
def m7 (l:List Nd):aq:=if l.length=0 then []else kp l ((l.length:Int) -1)
def tc (l:List Nd):Bool:=(decide (l.length<=15)&&nr l)&&decide ((m7 l).length<=96)
def K1 (l:List Nd):aq:=if tc l=true then m7 l else []
abbrev PR:=Option (Int×List aq×List Nd)
def il (k:aq):Int:=if k=[111,115]then 0 else if k=[97,114,99,104]then 1 else if k=[97,98,105]then 2 else-1
def mT (k s v:aq):Bool:=(decide (0<=il k)&&cC v)&&(decide (s=[61]) ||decide (s=[33,61]))
def vF (k s v:aq)(r:List aq)(nd:List Nd):Int×List aq×List Nd:=
 if s=[33,61]then(((nd++[(⟨1,0,0,il k,v⟩:Nd)]).length:Nat),r,(nd++[⟨1,0,0,il k,v⟩])++[⟨2,(nd.length:Nat),0,0,[]⟩])
 else((nd.length:Nat),r,nd++[⟨1,0,0,il k,v⟩])
def qx (k:aq)(w:List aq)(nd:List Nd):PR:=match w with
 |s::v::r=>if mT k s v=true then some (vF k s v r nd)else none
 |_=>none
def lE (part:List aq->List Nd->PR)(wd:aq)(op:Int):Nat->Int->List aq->List Nd->PR
 |0,a,w,nd=>some (a,w,nd)
 |f+1,a,w,nd=>match w with
  |[]=>some (a,w,nd)
  |x::r=>if x=wd then(match part r nd with
    |none=>none
    |some (b,w',nd')=>lE part wd op f (nd'.length:Nat) w' (nd'++[⟨op,a,b,0,[]⟩]))
   else some (a,w,nd)
def iJ (part:List aq->List Nd->PR)(wd:aq)(op:Int)(w:List aq)(nd:List Nd):PR:=match part w nd with
 |none=>none
 |some (a,w',nd')=>lE part wd op w'.length a w' nd'
def qg:aq:=[110,111,116]
def gW:aq:=[40]
def lf:aq:=[41]
def lG:aq:=[97,110,100]
def qt:aq:=[111,114]
def oI (r:PR):PR:=match r with
 |some (a,x::w',nd')=>if x=lf then some (a,w',nd')else none
 |_=>none
def Qx (r:PR):PR:=match r with
 |some (a,w',nd')=>some ((nd'.length:Nat),w',nd'++[⟨2,a,0,0,[]⟩])
 |none=>none
def si:Nat->List aq->List Nd->PR
 |0,_,_=>none
 |f+1,w,nd=>match w with
  |[]=>none
  |k::r=>if k=qg then Qx (si f r nd)
   else if k=gW then oI (iJ (iJ (si f) lG 3) qt 4 r nd)
   else qx k r nd
def PB (w:List aq)(nd:List Nd)(w':List aq)(nd':List Nd):Prop:=w'.length<=w.length/\nd'.length+2*w'.length<=nd.length+2*w.length/\w'<:+w
def tw (part:List aq->List Nd->PR):Prop:=∀w nd a w' nd',part w nd=some (a,w',nd')->PB w nd w' nd'/\w'.length<w.length
def PB.refl (w:List aq)(nd:List Nd):PB w nd w nd:=⟨aM _,aM _,jm _⟩
def PB.trans {w nd w' nd' w2 nd2}(h:PB w nd w' nd')(h2:PB w' nd' w2 nd2):PB w nd w2 nd2:=⟨cW h2.1 h.1,cW h2.2.1 h.2.1,h2.2.2.trans h.2.2⟩
def PB.tail {x:aq}{w:List aq}{nd:List Nd}{w':List aq}{nd':List Nd}(h:PB w nd w' nd')(n:Nd):PB (x::w) nd w' (nd'++[n]):=by
 obtain⟨h1,h2,h3⟩:=h;refine⟨by simp only[ax];omega,by simp only[bE,ax,az];omega,h3.trans (List.suffix_cons x w)⟩
def PB.uk {x:aq}{w:List aq}{nd:List Nd}{w':List aq}{nd':List Nd}(h:PB w nd w' nd'):PB (x::w) nd w' nd':=by
 obtain⟨h1,h2,h3⟩:=h;exact⟨by simp only[ax];omega,by simp only[ax];omega,h3.trans (List.suffix_cons x w)⟩
def xT {part:List aq->List Nd->PR}(hp:tw part)(wd:aq)(op:Int):∀(f:Nat)(a:Int)(w:List aq)(nd:List Nd)(a':Int)(w':List aq)(nd':List Nd),lE part wd op f a w nd=some (a',w',nd')->PB w nd w' nd'
 |0,a,w,nd,a',w',nd',h=>by simp only[lE,a7,dc]at h;obtain⟨rfl,rfl,rfl⟩:=h;exact .refl _ _
 |f+1,a,[],nd,a',w',nd',h=>by simp only[lE,a7,dc]at h;obtain⟨rfl,rfl,rfl⟩:=h;exact .refl _ _
 |f+1,a,x::r,nd,a',w',nd',h=>by
  simp only[lE]at h;by_cases hx:x=wd
  ·rw[av hx]at h;cases hq:part r nd with
   |none=>rw[hq]at h;cases h
   |some t=>
    obtain⟨b,w2,nd2⟩:=t;rw[hq]at h;exact((hp _ _ _ _ _ hq).1.tail _).trans (xT hp wd op f _ _ _ _ _ _ h)
  ·rw[aj hx]at h;simp only[a7,dc]at h;obtain⟨rfl,rfl,rfl⟩:=h;exact .refl _ _
def my {part:List aq->List Nd->PR}(hp:tw part)(wd:aq)(op:Int):tw (iJ part wd op):=by
 intro w nd a w' nd' h;unfold iJ at h;cases hq:part w nd with
 |none=>rw[hq]at h;cases h
 |some t=>
  obtain⟨b,w2,nd2⟩:=t;rw[hq]at h;obtain⟨h1,h2⟩:=hp _ _ _ _ _ hq;have:=xT hp wd op _ _ _ _ _ _ _ h;exact⟨h1.trans this,Nat.lt_of_le_of_lt this.1 h2⟩
def pI {k:aq}{w:List aq}{nd:List Nd}{a:Int}{w':List aq}{nd':List Nd}(h:qx k w nd=some (a,w',nd')):PB w nd w' nd':=by
 match w,h with
 |s::v::r,h=>
  simp only[qx]at h;split at h
  ·simp only[a7]at h;unfold vF at h;have hs:r<:+s::v::r:=(List.suffix_cons v r).trans (List.suffix_cons s _);split at h<;>(simp only[dc]at h;obtain⟨rfl,rfl,rfl⟩:=h;exact⟨by simp only[ax];omega,by simp only[bE,ax,az];omega,hs⟩)
  ·cases h
 |[_],h=>cases h
 |[],h=>cases h
def lL:∀f,tw (si f)
 |0=>fun w nd a w' nd' h=>by cases h
 |f+1=>by
  intro w nd a w' nd' h
  match w,h with
  |[],h=>cases h
  |k::r,h=>
   simp only[si]at h;split at h
   ·cases hq:si f r nd with
    |none=>rw[hq]at h;cases h
    |some t=>
     obtain⟨b,w2,nd2⟩:=t;rw[hq]at h;simp only[Qx,a7,dc]at h;obtain⟨rfl,rfl,rfl⟩:=h;obtain⟨h1,h2⟩:=lL f _ _ _ _ _ hq;exact⟨h1.tail _,by simp only[ax];omega⟩
   ·split at h
    ·cases hq:iJ (iJ (si f) lG 3) qt 4 r nd with
     |none=>rw[hq]at h;cases h
     |some t=>
      obtain⟨b,w2,nd2⟩:=t;rw[hq]at h;obtain⟨h1,h2⟩:=my (my (lL f) _ _) _ _ _ _ _ _ _ hq
      match w2,h,h1,h2 with
      |[],h,_,_=>cases h
      |x::w3,h,h1,h2=>
       simp only[oI]at h;split at h
       ·simp only[a7,dc]at h;obtain⟨rfl,rfl,rfl⟩:=h;exact⟨(h1.trans (PB.refl _ _).uk).uk,by simp only[ax]at h2⊢;omega⟩
       ·cases h
    ·exact⟨(pI h).uk,by have:=(pI h).1;simp only[ax];omega⟩
def C4 {p p':List aq->List Nd->PR}(hp:tw p)(wd:aq)(op:Int){u:Nat}(h:∀w nd,w.length<u->p w nd=p' w nd):∀(f:Nat)(a:Int)(w:List aq)(nd:List Nd),w.length<=u->lE p wd op f a w nd=lE p' wd op f a w nd
 |0,a,w,nd,hu=>rfl
 |f+1,a,[],nd,hu=>rfl
 |f+1,a,x::r,nd,hu=>by
  simp only[ax]at hu;simp only[lE];split
  ·rw[<-h r nd ae];cases hq:p r nd with
   |none=>rfl
   |some t=>
    obtain⟨b,w2,nd2⟩:=t;have:=hp _ _ _ _ _ hq;exact C4 hp wd op h f _ _ _ ae
  ·rfl
def rL {p p':List aq->List Nd->PR}(hp:tw p)(wd:aq)(op:Int){u:Nat}(h:∀w nd,w.length<u->p w nd=p' w nd):∀w nd,w.length<u->iJ p wd op w nd=iJ p' wd op w nd:=by
 intro w nd hu;unfold iJ;rw[<-h w nd hu];cases hq:p w nd with
 |none=>rfl
 |some t=>
  obtain⟨b,w2,nd2⟩:=t;have:=hp _ _ _ _ _ hq;exact C4 hp wd op h _ _ _ _ ae
def Gc:∀(u f g:Nat)(w:List aq)(nd:List Nd),w.length<u->w.length<=f->w.length<=g->si f w nd=si g w nd
 |0,_,_,_,_,h,_,_=>absurd h (Nat.not_lt_zero _)
 |u+1,f,g,[],nd,hu,hf,hg=>by cases f<;>cases g<;>rfl
 |u+1,0,_,_::_,_,_,h,_=>by simp at h
 |u+1,_,0,_::_,_,_,_,h=>by simp at h
 |u+1,f+1,g+1,k::r,nd,hu,hf,hg=>by
  simp only[ax]at hu hf hg;have ih:∀w nd,w.length<r.length+1->si f w nd=si g w nd:=fun w nd h=>Gc u f g w nd ae ae ae
  simp only[si];rw[ih r nd ae,rL (my (lL f) _ _) qt 4 (rL (lL f) lG 3 ih) r nd ae]
def j7 (w:List aq)(nd:List Nd):PR:=si w.length w nd
def kM:List aq->List Nd->PR:=iJ j7 lG 3
def iR:List aq->List Nd->PR:=iJ kM qt 4
def uL:tw j7:=fun w nd a w' nd' h=>lL _ w nd a w' nd' h
def xq:tw kM:=my uL _ _
def wQ (k:aq)(r:List aq)(nd:List Nd):j7 (k::r) nd=if k=qg then Qx (j7 r nd)else if k=gW then oI (iR r nd)else qx k r nd:=by
 show si (r.length+1) (k::r) nd=_;simp only[si];have ih:∀w nd,w.length<r.length+1->si r.length w nd=j7 w nd:=fun w nd h=>Gc (r.length+1) _ _ w nd h ae (aM _)
 rw[show si r.length r nd=j7 r nd from rfl,rL (my (lL _) _ _) qt 4 (rL (lL _) lG 3 ih) r nd ae];rfl
def Am {part:List aq->List Nd->PR}{wd:aq}{op:Int}{f:Nat}{a:Int}{nd:List Nd}:lE part wd op f a [] nd=some (a,[],nd):=by cases f<;>rfl
def Ky {part:List aq->List Nd->PR}{wd:aq}{op:Int}{f:Nat}{a:Int}{w:List aq}{nd:List Nd}(h:w.head? ≠some wd):lE part wd op f a w nd=some (a,w,nd):=by
 cases f with
 |zero=>rfl
 |succ f=>match w,h with
  |[],_=>rfl
  |x::r,h=>simp only[lE];rw[aj (by rintro rfl;exact h rfl)]
def xU {part:List aq->List Nd->PR}(hp:tw part){wd:aq}{op:Int}:∀(f g:Nat)(a:Int)(w:List aq)(nd:List Nd),w.length<=f->w.length<=g->lE part wd op f a w nd=lE part wd op g a w nd
 |_,_,a,[],nd,_,_=>by rw[Am,Am]
 |0,_,_,_::_,_,h,_=>by simp at h
 |_,0,_,_::_,_,_,h=>by simp at h
 |f+1,g+1,a,x::r,nd,hf,hg=>by
  simp only[ax]at hf hg;simp only[lE];split
  ·cases hq:part r nd with
   |none=>rfl
   |some t=>
    obtain⟨b,w2,nd2⟩:=t;have:=hp _ _ _ _ _ hq;exact xU hp f g _ _ _ ae ae
  ·rfl
def GB (part:List aq->List Nd->PR)(wd:aq)(op:Int)(a:Int)(w:List aq)(nd:List Nd):PR:=lE part wd op w.length a w nd
def Ia {part:List aq->List Nd->PR}(hp:tw part){wd:aq}{op:Int}{a:Int}{r:List aq}{nd:List Nd}:GB part wd op a (wd::r) nd=match part r nd with
  |none=>none
  |some (b,w',nd')=>GB part wd op (nd'.length:Nat) w' (nd'++[⟨op,a,b,0,[]⟩]):=by
 show lE part wd op (r.length+1) a (wd::r) nd=_;simp only[lE,aH];cases hq:part r nd with
 |none=>rfl
 |some t=>
  obtain⟨b,w2,nd2⟩:=t;have:=hp _ _ _ _ _ hq;exact xU hp _ _ _ _ _ ae (aM _)
structure PO where
 a:Int
 w:List aq
 nd:List Nd
 bad:Bool
def dY (R:PR)(w:List aq)(nd:List Nd)(o:PO):Prop:=(R=some (o.a,o.w,o.nd)/\o.bad=false\/R=none/\o.bad=true)/\PB w nd o.w o.nd
def EY (s:aq):Option (List Nd):=match iR (ai s 32) []with
 |some (_,[],nd)=>if tc nd=true then some nd else none
 |_=>none
def jW (s:aq):List Nd×Int:=if 96<s.length then([],3)else if s=[]then([],0)else match EY s with
 |some nd=>(nd,0)
 |none=>([],7)
def ml (s:aq):Bool:=decide ((jW s).2=0)&&decide (K1 (jW s).1=s)
abbrev Ch:=List aq->D->Bool->D
def ix:Ch:=fun w X b=>.agg [.sl 1 (w.map D.str),X,.bool b]
def iV (W:List aq):Ch:=fun w X b=>.agg [.sl 1 (W.map D.str),.int .i64 ((W.length-w.length:Nat):Int),X,.bool b]
def oG (Y:Ctx)(k:Nat)(ob:Ch)(n:Nat)(afB:List D)(w:List aq)(nd:List Nd)(b:Bool)(P:PO->Prop)(V:PO->D):Prop:=
 ∀(nx lp ln:Nat) (m:List (Nat×bV)) (K:D->St->Prop),look m lp=some (.buf k [ob w (.own ln 5 0 nd.length) b])->look m ln=some (.buf 5 (nd.map Nd.D))->lp<nx->ln<nx->
  (∀o,P o->K (V o) ⟨nx+1,(nx,.buf 5 (o.nd.map Nd.D))::du (cD m ln) lp (.buf k [ob o.w (.own nx 5 0 o.nd.length) o.bad])⟩)->Y.tr n (.ptr lp k 0 0::afB) ⟨nx,m⟩ K
def MD (Y:Ctx)(k:Nat)(ob:Ch)(n:Nat)(afB:List D)(w:List aq)(nd:List Nd)(b:Bool)(P:PO->Prop)(V:PO->D):Prop:=
 ∀(nx lp ln:Nat) (m:List (Nat×bV)) (K:D->St->Prop),look m lp=some (.buf k [ob w (.own ln 5 0 nd.length) b])->look m ln=some (.buf 5 (nd.map Nd.D))->lp<nx->ln<nx->
  (∀o,P o->K (V o) ⟨nx,du m lp (.buf k [ob o.w (.own ln 5 0 nd.length) o.bad])⟩)->Y.tr n (.ptr lp k 0 0::afB) ⟨nx,m⟩ K
def wg (k:Nat)(ob:Ch)(P:PO->Prop)(V:PO->D):D->List (Nat×bV)->Prop:=fun d m=>∃(o:PO)(j:Nat),2<=j/\P o/\d=V o/\look m 0=some (.buf k [ob o.w (.own j 5 0 o.nd.length) o.bad])/\look m j=some (.buf 5 (o.nd.map Nd.D))
def F2 (k:Nat)(ob:Ch)(nd:List Nd)(P:PO->Prop)(V:PO->D):D->List (Nat×bV)->Prop:=fun d m=>∃(o:PO),P o/\d=V o/\look m 0=some (.buf k [ob o.w (.own 1 5 0 nd.length) o.bad])/\look m 1=some (.buf 5 (nd.map Nd.D))
def Va:PO->D:=fun o=>.int .i64 o.a
def Qt {m:List (Nat×bV)}(x:Nd):Mg m [.a,.a,.a,.a,.a] (Nd.D x):=⟨rfl,rfl,rfl,rfl,rfl,rfl⟩
def KI {m:List (Nat×bV)}{lp ln:Nat}{w:List aq}{nd:List Nd}{b:Bool}(h1:look m lp=some (.buf 3 [ix w (.own ln 5 0 nd.length) b]))(h2:look m ln=some (.buf 5 (nd.map Nd.D))):
  mn m [[.pt [.sl 1 [.a],.sl 5 [.a,.a,.a,.a,.a],.a]]] [.ptr lp 3 0 0]:=by
 refine⟨⟨by simp[fW,h1], ?_⟩,trivial⟩;intro e he;simp only[bq,h1,cK]at he;subst he;refine⟨rfl,⟨by simp[fW,h2], ?_⟩,rfl,rfl⟩;simp only[bq,h2,bR,aP];intro e he;obtain⟨x,_,rfl⟩:=fQ.1 he;exact Qt x
def bm (w:List aq):aq:=w.headD []
def bQ (w:List aq):List aq:=if bm w=[]then w else w.drop 1
def dx (w:List aq)(b:Bool):Bool:=if bm w=[]then true else b
def sa {w:List aq}{x:aq}(hx:x≠[])(h:bm w=x):∃r,w=x::r:=by
 match w,h with
 |[],h=>exact absurd h.symm hx
 |y::r,h=>exact⟨r,by rw[show y=x from h]⟩
def LP {w:List aq}(h:¬bm w=[]):1<=w.length:=by
 match w,h with
 |[],h=>exact absurd rfl h
 |_::_,_=>simp
def ko {x:aq}{r:List aq}(hx:x≠[]):bQ (x::r)=r:=aj hx
def kn {x:aq}{r:List aq}{b:Bool}(hx:x≠[]):dx (x::r) b=b:=aj hx
def IX (w:List aq):bQ w<:+w:=by
 unfold bQ;split
 ·exact jm _
 ·exact List.drop_suffix 1 w
def pE (w:List aq)(nd:List Nd):PB w nd (bQ w) nd:=by
 have h:=IX w;have:=h.length_le;exact⟨this,ae,h⟩
def DV {w:List aq}{b:Bool}(h:dx w b=false):b=false/\bm w≠[]/\w=bm w::bQ w:=by
 unfold dx at h;split at h
 ·cases h
 ·rename_i hs;refine⟨h,hs, ?_⟩
  match w,hs with
  |x::r,hs=>rw[ko (x:=x) (r:=r) hs];rfl
def nW (b:Bool)(k:aq)(w:List aq)(nd:List Nd):PR:=if b=true then none else qx k w nd
def CY {j:Nat}{k:aq}(hj:j<3)(h:qf[j]! =k):il k=(j:Nat):=by
 obtain rfl|rfl|rfl:j=0\/j=1\/j=2:=ae
 all_goals (subst h;rfl)
def Ai {k:aq}(h:0<=il k):∃j,j<3/\qf[j]! =k/\il k=(j:Nat):=by
 unfold il at h⊢;by_cases h1:k=[111,115]
 ·exact⟨0,ae,h1.symm,by rw[av h1];rfl⟩
 ·by_cases h2:k=[97,114,99,104]
  ·exact⟨1,ae,h2.symm,by rw[aj h1,av h2];rfl⟩
  ·by_cases h3:k=[97,98,105]
   ·exact⟨2,ae,h3.symm,by rw[aj h1,aj h2,av h3];rfl⟩
   ·rw[aj h1,aj h2,aj h3]at h;omega
def EH (j:Nat)(k s v:aq)(bad:Bool):Bool:=!(((!decide (qf[j]! =k) ||bad) ||(!decide (s=[61])&& !decide (s=[33,61]))) ||!cC v)
def Kc {j:Nat}{k:aq}{w:List aq}{nd:List Nd}{b:Bool}(hj:j<3)(h:EH j k (bm w) (bm (bQ w)) (dx (bQ w) (dx w b))=true):
  nW b k w nd=some (vF k (bm w) (bm (bQ w)) (bQ (bQ w)) nd)/\il k=(j:Nat)/\dx (bQ w) (dx w b)=false:=by
 have h0:=h;simp only[EH,Bool.not_or,bh,Bool.not_not,aS,bn,Bool.not_and,cR]at h;obtain⟨⟨⟨h1,h2⟩,h3⟩,h4⟩:=h;have hk:=CY hj h1;obtain⟨g1,g2,g3⟩:=DV h2;obtain⟨g4,g5,g6⟩:=DV g1;refine⟨?_,hk,h2⟩;unfold nW;rw[g4,aj aN]
 conv=>lhs;rw[g6,g3]
 simp only[qx];rw[av];simp only[mT,bh,cR,aS];exact⟨⟨ae,h4⟩,h3⟩
def M9 {k:aq}{w:List aq}{nd:List Nd}{b:Bool}(h:∀j,j<3->EH j k (bm w) (bm (bQ w)) (dx (bQ w) (dx w b))=false):nW b k w nd=none:=by
 unfold nW;split
 ·rfl
 ·rename_i hb
  match w with
  |[]=>rfl
  |[_]=>rfl
  |s::v::r=>
   simp only[qx];rw[aj];intro ha;simp only[mT,bh,cR,aS]at ha;obtain⟨⟨h1,h2⟩,h3⟩:=ha;obtain⟨j,hj,hj2,_⟩:=Ai h1;have hs:s≠[]:=by rintro rfl;rcases h3 with h|h<;>cases h
   have hv:v≠[]:=by rintro rfl;cases h2
   have:=h j hj;rw[ko hs,kn hs,kn hv]at this;simp only[Bool.not_eq_true]at hb;subst hb;revert this;simp only[EH,bm,List.headD_cons,hj2,h2,decide_true];rcases h3 with rfl|rfl<;>simp
def F5 (w:List aq)(nd:List Nd):PB w nd (bQ (bQ w)) nd:=(pE w nd).trans (pE _ nd)
def xj {b:Bool}{k:aq}{w:List aq}{nd:List Nd}{a:Int}{w':List aq}{nd':List Nd}(h:nW b k w nd=some (a,w',nd')):PB w nd w' nd':=by
 unfold nW at h;split at h
 ·cases h
 ·exact pI h
def J0 {w:List aq}{nd:List Nd}(h1:bm w≠qg)(h2:bm w≠gW):j7 w nd=nW (dx w false) (bm w) (bQ w) nd:=by
 match w with
 |[]=>rfl
 |k::r=>
  have h1:k≠qg:=h1;have h2:k≠gW:=h2;rw[wQ,aj h1,aj h2];by_cases hk:k=[]
  ·subst hk;show qx [] r nd=none
   match r with
   |[]=>rfl
   |[_]=>rfl
   |s::v::r=>rfl
  ·rw[ko hk,kn hk];rfl
def JM {R:PR}{o:PO}{w:List aq}{nd:List Nd}(h:dY R w nd o)(hs:bm o.w≠lf):oI R=none:=by
 rcases h.1 with⟨h1,_⟩|⟨h1,_⟩
 ·rw[h1]
  match ho:o.w,hs with
  |[],_=>rfl
  |x::r,hs=>simp only[oI];exact aj hs
 ·rw[h1];rfl
def dY.pb {R:PR}{o:PO}{w:List aq}{nd:List Nd}(h:dY R w nd o):PB w nd o.w o.nd:=h.2
def GR {r:List aq}{nd:List Nd}{o:PO}(h:dY (j7 r nd) r nd o):dY (j7 (qg::r) nd) (qg::r) nd ⟨(o.nd.length:Nat),o.w,o.nd++[⟨2,o.a,0,0,[]⟩],o.bad⟩:=by
 refine⟨?_,h.2.tail _⟩;rw[wQ,av rfl];rcases h.1 with⟨h1,h2⟩|⟨h1,h2⟩
 ·left;rw[h1];exact⟨rfl,h2⟩
 ·right;rw[h1];exact⟨rfl,h2⟩
def tN (r:List aq)(nd:List Nd):j7 (gW::r) nd=oI (iR r nd):=by rw[wQ,aj aF,av rfl]
def Df {r:List aq}{nd:List Nd}{o:PO}(h:dY (iR r nd) r nd o)(hs:¬bm o.w=lf):dY (j7 (gW::r) nd) (gW::r) nd ⟨o.a,bQ o.w,o.nd,true⟩:=
 ⟨.inr ⟨by rw[tN,JM h hs],rfl⟩,h.2.uk.trans (pE _ _)⟩
def KX {r:List aq}{nd:List Nd}{o:PO}(h:dY (iR r nd) r nd o)(hs:bm o.w=lf):dY (j7 (gW::r) nd) (gW::r) nd ⟨o.a,bQ o.w,o.nd,dx o.w o.bad⟩:=by
 refine⟨?_,h.2.uk.trans (pE _ _)⟩;obtain⟨q,hq⟩:=sa aF hs;rw[tN,hq,ko aF,kn aF];rcases h.1 with⟨h1,h2⟩|⟨h1,h2⟩
 ·left;rw[h1,hq];exact⟨by simp only[oI,aH],h2⟩
 ·right;rw[h1];exact⟨rfl,h2⟩
def KW {w:List aq}{nd:List Nd}{o:PO}(hf:j7 w nd=nW (dx w false) (bm w) (bQ w) nd)(h:dY (nW (dx w false) (bm w) (bQ w) nd) (bQ w) nd o):dY (j7 w nd) w nd o:=
 ⟨by rw[hf];exact h.1,(pE w nd).trans h.2⟩
def KA {s:aq}{o:PO}(h:dY (iR (ai s 32) []) (ai s 32) [] o)(hc:((o.bad ||decide ((0:Int)<(o.w.length:Nat))) ||!tc o.nd)=true):EY s=none:=by
 unfold EY;rcases h.1 with⟨h1,h2⟩|⟨h1,h2⟩
 ·rw[h1]
  match hw:o.w with
  |[]=>
   simp only[h2,hw,az,Bool.false_or]at hc;have:tc o.nd=false:=by simpa using hc
   simp only[this,ey,aI]
  |x::r=>rfl
 ·rw[h1]
def GH {s:aq}{o:PO}(h:dY (iR (ai s 32) []) (ai s 32) [] o)(hc:((o.bad ||decide ((0:Int)<(o.w.length:Nat))) ||!tc o.nd)=false):EY s=some o.nd:=by
 simp only[c9,bj,bP]at hc;unfold EY;rcases h.1 with⟨h1,h2⟩|⟨h1,h2⟩
 ·rw[h1]
  match hw:o.w with
  |[]=>simp only[hc.2,aH]
  |x::r=>exact absurd hc.1.2 (by rw[hw];simp)
 ·rw[h2]at hc;exact absurd hc.1.1 aN
def GG {s:aq}{nd:List Nd}(h1:¬96<s.length)(h2:¬s=[])(h:EY s=some nd):jW s=(nd,0):=by simp only[jW,h,aj h1,aj h2]
def GD {s:aq}(h1:¬96<s.length)(h2:¬s=[])(h:EY s=none):jW s=([],7):=by simp only[jW,h,aj h1,aj h2]
def Ea (part:List aq->List Nd->PR)(wd:aq)(op:Int)(R:PR)(w:List aq)(nd:List Nd)(o:PO):Prop:=(o.bad=false/\R=GB part wd op o.a o.w o.nd\/o.bad=true/\R=none)/\PB w nd o.w o.nd
def Ea.first {part:List aq->List Nd->PR}{wd:aq}{op:Int}{w:List aq}{nd:List Nd}{o:PO}(h:dY (part w nd) w nd o):Ea part wd op (iJ part wd op w nd) w nd o:=by
 refine⟨?_,h.2⟩;rcases h.1 with⟨h1,h2⟩|⟨h1,h2⟩
 ·left;refine⟨h2, ?_⟩;unfold iJ;rw[h1];rfl
 ·right;refine⟨h2, ?_⟩;unfold iJ;rw[h1]
def Ea.next {part:List aq->List Nd->PR}(hp:tw part){wd:aq}{op:Int}{R:PR}{w:List aq}{nd:List Nd}{a:Int}{r:List aq}{nd1:List Nd}{o:PO}(h:Ea part wd op R w nd ⟨a,wd::r,nd1,false⟩)(h2:dY (part r nd1) r nd1 o):
  Ea part wd op R w nd ⟨(o.nd.length:Nat),o.w,o.nd++[⟨op,a,o.a,0,[]⟩],o.bad⟩:=by
 refine⟨?_,h.2.trans (h2.2.tail _)⟩;rcases h.1 with⟨_,h1⟩|⟨h1,_⟩
 ·rw[Ia hp]at h1;rcases h2.1 with⟨g1,g2⟩|⟨g1,g2⟩
  ·left;exact⟨g2,by rw[h1,g1]⟩
  ·right;exact⟨g2,by rw[h1,g1]⟩
 ·cases h1
def Ea.last {part:List aq->List Nd->PR}{wd:aq}{op:Int}{R:PR}{w:List aq}{nd:List Nd}{o:PO}(h:Ea part wd op R w nd o)(hx:o.bad=true\/o.w.head? ≠some wd):dY R w nd o:=by
 refine⟨?_,h.2⟩;rcases h.1 with⟨h1,h2⟩|⟨h1,h2⟩
 ·left;refine⟨?_,h1⟩;rw[h2];unfold GB;rw[Ky];rcases hx with hx|hx
  ·rw[h1]at hx;cases hx
  ·exact hx
 ·right;exact⟨h2,h1⟩
def gL (w:List aq)(s:aq):Bool:=match w with
 |x::_=>decide (x=s)
 |[]=>false
def oA (w:List aq)(s:aq):List aq:=if gL w s=true then w.drop 1 else w
def rB (w:List aq)(b:Bool):Bool:=if w=[]then true else b
def nL {w:List aq}{s:aq}(h:gL w s=true):∃r,w=s::r:=by
 match w,h with
 |x::r,h=>exact⟨r,by rw[show x=s by simpa[gL]using h]⟩
def te (s:aq)(r:List aq):gL (s::r) s=true:=by simp[gL]
def lU (s:aq)(r:List aq):oA (s::r) s=r:=by unfold oA;rw[av (te s r)];rfl
def ph {w:List aq}{s:aq}(h:gL w s=false):oA w s=w:=by unfold oA;rw[aj (by rw[h];simp)]
def yd {w:List aq}{s:aq}(h:gL w s=false):w.head? ≠some s:=by
 match w,h with
 |[],_=>simp
 |x::r,h=>intro e;have e:x=s:=(by simpa using e);subst e;rw[te]at h;cases h
def G5 {W w:List aq}(h:w<:+W)(hw:1<=w.length):W.length-w.length<W.length/\W[W.length-w.length]! =w[0]! :=by
 have hl:=h.length_le;have he:=List.suffix_iff_eq_drop.1 h;refine⟨ae, ?_⟩;have h1:(W.drop (W.length-w.length))[0]! =w[0]! :=by rw[<-he]
 rw[<-h1];have h2:W.length-w.length<W.length:=ae;simp[h2]
def GL {W w:List aq}(h:w<:+W)(s:aq):(decide (((W.length-w.length:Nat):Int)<(W.length:Nat))&&decide (W[W.length-w.length]! =s))=gL w s:=by
 have hl:=h.length_le
 match w with
 |[]=>
  have:decide (((W.length-([]:List aq).length:Nat):Int)<(W.length:Nat))=false:=cJ aN;rw[this];rfl
 |x::r=>
  obtain⟨h1,h2⟩:=G5 h aN;rw[h2,bS ae,fA];rfl
def GY {W:List aq}{x:aq}{r:List aq}{X:D}{b:Bool}(h:(x::r).length<=W.length):wG (iV W (x::r) X b) 4 1 1 (.int .i64 (((W.length-(x::r).length:Nat):Int)+1))=iV W r X b:=by
 have:((W.length-(x::r).length:Nat):Int)+1=((W.length-r.length:Nat):Int):=by simp only[ax]at h⊢;omega
 rw[this];rfl
def xz (w:List aq)(nd:List Nd):PR:=match w with
 |k::r=>qx k r nd
 |[]=>none
def Gt (k:aq)(i:Nat):Int:=if il k<i then il k else-1
def Gu (k:aq):-1<=il k:=by
 unfold il;split
 ·decide
 ·split
  ·decide
  ·split<;>decide
def Nn (k:aq):il k<3:=by
 unfold il;split
 ·decide
 ·split
  ·decide
  ·split<;>decide
def Nl {k:aq}{i:Nat}(hi:i<3)(h:sk (i:Int)=k):Gt k (i+1)=(i:Int):=by
 have:il k=(i:Nat):=CY hi (by rw[<-h];exact rV (k:=(i:Int)) ae ae);unfold Gt;rw[this,av ae]
def Qo {k:aq}{i:Nat}(hi:i<3)(h:¬sk (i:Int)=k):Gt k (i+1)=Gt k i:=by
 have h1:il k≠(i:Nat):=by
  intro e;obtain⟨j,hj,hj2,hj3⟩:=Ai (k:=k) ae;have:j=i:=ae;subst this;exact h (by rw[<-hj2];exact(rV (k:=(j:Int)) ae ae).symm)
 have:=Gu k;unfold Gt;by_cases h2:il k<i
 ·rw[av ae,av h2]
 ·rw[aj ae,aj h2]
def Uj (k:aq):Gt k 0=-1:=by
 have:=Gu k;unfold Gt;split
 ·omega
 ·rfl
def Uk (k:aq):Gt k 3=il k:=by
 have:=Nn k;unfold Gt;rw[av ae]
def zP (k s v:aq):(((decide (il k<0) ||!cC v)) ||(!decide (s=[61])&& !decide (s=[33,61])))=!mT k s v:=by
 unfold mT;rw[show decide (0<=il k)=!decide (il k<0)from by rw[<-decide_not];exact ed.2 ae];generalize decide (il k<0)=a;generalize cC v=b;generalize decide (s=[61])=c;generalize decide (s=[33,61])=d;cases a<;>cases b<;>cases c<;>cases d<;>rfl
def Hp {w:List aq}{nd:List Nd}(h:mT (bm w) (bm (w.drop 1)) (bm ((w.drop 1).drop 1))=true):∃r,w=bm w::bm (w.drop 1)::bm ((w.drop 1).drop 1)::r/\xz w nd=some (vF (bm w) (bm (w.drop 1)) (bm ((w.drop 1).drop 1)) r nd):=by
 match w,h with
 |[],h=>cases h
 |[_],h=>simp[mT,bm,cC]at h
 |[_,_],h=>simp[mT,bm,cC]at h
 |k::s::v::r,h=>exact⟨r,rfl,by simp only[xz,qx];exact av h⟩
def JF {w:List aq}{nd:List Nd}(h:mT (bm w) (bm (w.drop 1)) (bm ((w.drop 1).drop 1))=false):xz w nd=none:=by
 match w,h with
 |[],h=>rfl
 |[_],h=>rfl
 |[_,_],h=>rfl
 |k::s::v::r,h=>simp only[xz,qx];exact aj (by rw[show mT k s v=false from h];simp)
def Bi (w:List aq)(nd:List Nd):PB w nd (w.drop 1) nd:=by
 have h:w.drop 1<:+w:=List.drop_suffix 1 w;have:=h.length_le;exact⟨this,ae,h⟩
def zY {w:List aq}{nd:List Nd}{a:Int}{w':List aq}{nd':List Nd}(h:xz w nd=some (a,w',nd')):PB w nd w' nd':=by
 match w,h with
 |k::r,h=>exact(pI h).uk
def Qd {w:List aq}{nd:List Nd}(h1:gL w qg=false)(h2:gL w gW=false):j7 w nd=xz w nd:=by
 match w,h1,h2 with
 |[],_,_=>rfl
 |k::r,h1,h2=>
  have h1:¬k=qg:=by simpa[gL]using h1
  have h2:¬k=gW:=by simpa[gL]using h2
  rw[wQ,aj h1,aj h2];rfl
def Hu {R:PR}{o:PO}{w:List aq}{nd:List Nd}(h:dY R w nd o)(hs:gL o.w lf=false):oI R=none:=by
 rcases h.1 with⟨h1,_⟩|⟨h1,_⟩
 ·rw[h1]
  match ho:o.w,hs with
  |[],_=>rfl
  |x::r,hs=>simp only[oI];exact aj (by simpa[gL]using hs)
 ·rw[h1];rfl
def BD {r:List aq}{nd:List Nd}{o:PO}(h:dY (iR r nd) r nd o)(hs:gL o.w lf=false):dY (j7 (gW::r) nd) (gW::r) nd ⟨o.a,o.w,o.nd,true⟩:=
 ⟨.inr ⟨by rw[tN,Hu h hs],rfl⟩,h.2.uk⟩
def Ir {r:List aq}{nd:List Nd}{o:PO}{q:List aq}(h:dY (iR r nd) r nd o)(hs:o.w=lf::q):dY (j7 (gW::r) nd) (gW::r) nd ⟨o.a,q,o.nd,o.bad⟩:=by
 refine⟨?_,(h.2.uk (x:=gW)).trans (by rw[hs];exact(PB.refl _ _).uk)⟩;rw[tN];rcases h.1 with⟨h1,h2⟩|⟨h1,h2⟩
 ·left;rw[h1,hs];exact⟨by simp only[oI,aH],h2⟩
 ·right;rw[h1];exact⟨rfl,h2⟩
def PB.Je {w w':List aq}{nd nd':List Nd}{W:List aq}(h:PB w nd w' nd')(hW:w<:+W):w'<:+W:=h.2.2.trans hW
def uM (f:Nat->Int):Nat->Nat->Int
 |_,0=>0
 |i,k+1=>if f i=0 then uM f (i+1) k else f i
def jJ (f:Nat->Int)(i n:Nat):Int:=uM f i (n-i)
def oX {f:Nat->Int}{i n:Nat}(h:i<n)(hf:f i=0):jJ f i n=jJ f (i+1) n:=by
 unfold jJ;obtain⟨k,hk⟩:∃k,n-i=k+1:=⟨n-i-1,ae⟩
 rw[hk,show n-(i+1)=k by omega];simp only[uM,hf,aH]
def nX {f:Nat->Int}{i n:Nat}(h:i<n)(hf:f i≠0):jJ f i n=f i:=by
 unfold jJ;obtain⟨k,hk⟩:∃k,n-i=k+1:=⟨n-i-1,ae⟩
 rw[hk];simp only[uM,hf,aI]
def oW {f:Nat->Int}{i n:Nat}(h:n<=i):jJ f i n=0:=by
 unfold jJ;rw[show n-i=0 by omega];rfl
def pQ (f:Nat->Int):Nat->Nat->Int×Int
 |_,0=>(0,0)
 |i,k+1=>if f i=0 then pQ f (i+1) k else(f i,((i:Nat):Int))
def ij (f:Nat->Int)(i n:Nat):Int×Int:=pQ f i (n-i)
def lN {f:Nat->Int}{i n:Nat}(h:i<n)(hf:f i=0):ij f i n=ij f (i+1) n:=by
 unfold ij;obtain⟨k,hk⟩:∃k,n-i=k+1:=⟨n-i-1,ae⟩
 rw[hk,show n-(i+1)=k by omega];simp only[pQ,hf,aH]
def j8 {f:Nat->Int}{i n:Nat}(h:i<n)(hf:f i≠0):ij f i n=(f i,((i:Nat):Int)):=by
 unfold ij;obtain⟨k,hk⟩:∃k,n-i=k+1:=⟨n-i-1,ae⟩
 rw[hk];simp only[pQ,hf,aI]
def lM {f:Nat->Int}{i n:Nat}(h:n<=i):ij f i n=(0,0):=by
 unfold ij;rw[show n-i=0 by omega];rfl
def fD (r:Rec)(name rng:aq):Int:=if fZ name=false then 4 else if name=r.name then 8 else if nF rng=false then 6 else 0
def N4 (l:List aq)(i:Nat):Bool:=cC l[i]! && !(decide (0<i)&& !Op.bytesLess l[i-1]! l[i]!)
def iU (l:List aq)(alone:Bool):Bool:=(decide (l.length<=6)&&(alone ||decide (l.length=0)))&&cO (N4 l) 0 l.length
def iF (r:Rec)(w:bD)(alone:Bool):Int:=if fD r w.name w.range≠0 then fD r w.name w.range else if iU w.feats alone=false then 11 else 0
def mw (r:Rec)(l:List bD):Int:=jJ (fun i=>iF r l[i]! (decide ((l.length:Int)=1))) 0 l.length
def gU (r:Rec)(n:ba):Int:=if n.any.length=0 then 9 else if 3<n.any.length then 3 else if mw r n.any≠0 then mw r n.any else
 if ml n.when'=false then 7 else if n.option≠[]/\cC n.option=false then 14 else 0
def oH (r:Rec)(b:fh):Int:=if fD r b.name b.range≠0 then fD r b.name b.range else if ml b.when'=false then 7 else 0
def BC (l:List ba)(x:aq):Bool:=l.any fun n=>decide (n.option=x)
def ud (l:List ba)(x:aq):Bool:=l.any fun n=>decide (n.any.length=1)&&decide (n.any[0]!.name=x)
def jF (r:Rec)(s:aq):Int:=if(cU s).1=2/\BC r.needs (cU s).2.1=false then 14 else if(cU s).1=3/\ud r.needs (cU s).2.1=false then 16 else 0
def kf (r:Rec)(of:List aq):Int:=jJ (fun i=>jF r of[i]!) 0 of.length
def lS (r:Rec):Int×Int:=ij (fun i=>gU r r.needs[i]!) 0 r.needs.length
def sB (r:Rec):Int×Int:=ij (fun i=>oH r r.bars[i]!) 0 r.bars.length
def sS (r:Rec):Int×Int:=ij (fun i=>kf r r.feats[i]!.of) 0 r.feats.length
def ei (r:Rec):Int×Int:=if(lS r).1≠0 then lS r else if(sB r).1≠0 then sB r else if gp r.feats=false then(11,0)else sS r
def L3 (n:Nat)(al:Bool):(decide ((6:Int)<(n:Nat)) ||(decide ((0:Int)<(n:Nat))&& !al))=!(decide (n<=6)&&(al ||decide (n=0))):=by
 rw[show decide ((6:Int)<(n:Nat))=!decide (n<=6)from by rw[<-decide_not];exact ed.2 ae,show decide ((0:Int)<(n:Nat))=!decide (n=0)from by rw[<-decide_not];exact ed.2 ae];generalize decide (n<=6)=a;generalize decide (n=0)=b;cases a<;>cases b<;>cases al<;>rfl
def U8 (l:List aq)(i:Nat):(!cC l[i]! ||(decide ((0:Int)<(i:Nat))&& !Op.bytesLess l[i-1]! l[i]!))=!N4 l i:=by
 unfold N4;rw[show decide ((0:Int)<(i:Nat))=decide (0<i)from ed.2 ae];generalize cC l[i]! =a;generalize decide (0<i)=b;generalize Op.bytesLess l[i-1]! l[i]! =c;cases a<;>cases b<;>cases c<;>rfl
def wf_2 (l:List aq)(al:Bool):(cO (fun i=>cC l[i]!) 0 l.length&&((decide (l.length<=6)&&rising l)&&(al ||decide (l.length=0))))=iU l al:=by
 have h1:cO (N4 l) 0 l.length=(cO (fun i=>cC l[i]!) 0 l.length&&rising l):=by
  rw[Bool.eq_iff_iff,bh];unfold rising;simp only[eE,N4,bh,bn,dt,bj,bP];constructor
  ·intro h;exact⟨fun j a b=>(h j a b).1,fun j a b=>((h j ae b).2).resolve_left ae⟩
  ·rintro⟨h1,h2⟩ j a b;exact⟨h1 j a b,by by_cases hj:0<j;exact .inr (h2 j ae b);exact .inl hj⟩
 unfold iU;rw[h1];generalize cO (fun i=>cC l[i]!) 0 l.length=a;generalize decide (l.length<=6)=b;generalize rising l=c;generalize decide (l.length=0)=d;cases a<;>cases b<;>cases c<;>cases d<;>cases al<;>rfl
def Md (k:Int)(x:aq)(n:ba):Bool:=(decide (k=2)&&decide (n.option=x)) ||((decide (k=3)&&decide ((n.any.length:Int)=1))&&decide (n.any[0]!.name=x))
def Qn (k:Int):Int:=if k=2 then 14 else if k=3 then 16 else 0
def Kk (r:Rec)(s:aq):jF r s=if r.needs.any (Md (cU s).1 (cU s).2.1)=true then 0 else Qn (cU s).1:=by
 unfold jF Qn BC ud;generalize (cU s).1=k;generalize (cU s).2.1=x;by_cases h2:k=2
 ·subst h2;have:Md 2 x=fun n=>decide (n.option=x):=by funext n;simp[Md]
  rw[this];cases r.needs.any fun n=>decide (n.option=x)<;>simp
 ·by_cases h3:k=3
  ·subst h3;have:Md 3 x=fun n=>decide (n.any.length=1)&&decide (n.any[0]!.name=x):=by
    funext n;simp only[Md];rw[show decide ((n.any.length:Int)=1)=decide (n.any.length=1)from ed.2 ae];simp
   rw[this];cases r.needs.any fun n=>decide (n.any.length=1)&&decide (n.any[0]!.name=x)<;>simp
  ·have:Md k x=fun _=>false:=by funext n;simp[Md,h2,h3]
   rw[this];simp[h2,h3]
def A8 {α:Type} [Inhabited α]{c:α->Bool}{l:List α}{i:Nat}(h:i<l.length)(hc:c l[i]! =true):(l.drop i).any c=true:=by
 rw[jP h,List.any_cons];have:l[i]! =l[i]:=by simp[h]
 rw[<-this,hc,Bool.true_or]
def En {α:Type} [Inhabited α]{c:α->Bool}{l:List α}{i:Nat}(h:i<l.length)(hc:c l[i]! =false):(l.drop i).any c=(l.drop (i+1)).any c:=by
 rw[jP h,List.any_cons];have:l[i]! =l[i]:=by simp[h]
 rw[<-this,hc,Bool.false_or]
def A7 {α:Type}{c:α->Bool}{l:List α}{i:Nat}(h:l.length<=i):(l.drop i).any c=false:=by
 rw[mg h];rfl
def eQ:aq:=[110,101,101,100]
def ib:aq:=[97,110,121]
def fP:aq:=[119,104,101,110]
def di:aq:=[111,112,116,105,111,110]
def ic:aq:=[98,97,114]
def cG:aq:=[102,101,97,116,117,114,101]
def dL:aq:=[112,97,99,107,97,103,101]
def mM:aq:=[102,117,108,108]
def dX:aq:=[98,97,114,101]
def cw (l:List aq):aq:=bc [32] l++[10]
def nt (w:bD):List aq:=[ib,w.name,if w.feats.length=0 then [45]else bc [44] w.feats,if w.bare=true then dX else mM,w.range]
def iE (s:aq):aq:=if s=[]then []else cw [fP,s]
def su (s:aq):aq:=if s=[]then []else cw [di,s]
def qU (n:ba):aq:=cw [eQ]++(n.any.map fun w=>cw (nt w)).flatten++iE n.when'++su n.option
def wi (b:fh):aq:=cw [ic,b.name,b.range]++iE b.when'
def qI (f:bF):aq:=cw ([cG,f.name]++f.of)
def qQ (r:Rec):aq:=cw [dL,r.name,mL r.v]
def iT (r:Rec):aq:=qQ r++(r.needs.map qU).flatten++(r.bars.map wi).flatten++(r.feats.map qI).flatten
def cH (r:Rec):Int×Int:=if fZ r.name=false then(4,0)else if iW r.v=false then(5,0)else if 8<r.needs.length\/8<r.bars.length then(3,0)else
 if(ei r).1≠0 then ei r else if 4096<(iT r).length then(3,0)else(0,0)
def iq (r:Rec):aq×Int:=if(cH r).1≠0 then([],(cH r).1)else(iT r,0)
def bD.sm (w:bD):Prop:=(w.name.length<=1048576/\w.range.length<=1048576)/\∀t∈w.feats,t.length<=1048576
def ba.sm (n:ba):Prop:=(∀w∈n.any,w.sm)/\n.when'.length<=1048576/\n.option.length<=1048576
def fh.sm (b:fh):Prop:=b.name.length<=1048576/\b.range.length<=1048576/\b.when'.length<=1048576
def gV (r:Rec):Prop:=(r.name.length<=1048576/\r.v.sm)/\(∀n∈r.needs,n.sm)/\(∀b∈r.bars,b.sm)/\pP r.feats
def Dg {r:Rec}{e:Int×Int}(h:lS r=e)(hn:e.1≠0):ei r=e:=by rw[ei,av (by rw[h];exact hn),h]
def yn {r:Rec}{e:Int×Int}(h0:lS r=(0,0))(h:sB r=e)(hn:e.1≠0):ei r=e:=by rw[ei,aj (by rw[h0];simp),av (by rw[h];exact hn),h]
def Dh {r:Rec}(h0:lS r=(0,0))(h1:sB r=(0,0))(h:gp r.feats=false):ei r=(11,0):=by rw[ei,aj (by rw[h0];simp),aj (by rw[h1];simp),av h]
def qY {r:Rec}{e:Int×Int}(h0:lS r=(0,0))(h1:sB r=(0,0))(h:gp r.feats=true)(h2:sS r=e):ei r=e:=by rw[ei,aj (by rw[h0];simp),aj (by rw[h1];simp),aj (by rw[h];simp),h2]
def CI (f:Nat->Int):∀(k i:Nat),(pQ f i k).1=0->pQ f i k=(0,0)
 |0,_,_=>rfl
 |k+1,i,h=>by
  simp only[pQ]at h⊢;by_cases hf:f i=0
  ·rw[av hf]at h⊢;exact CI f k (i+1) h
  ·rw[aj hf]at h;exact absurd h hf
def Di {r:Rec}(h:(ei r).1=0):ei r=(0,0):=by
 unfold ei at h⊢;split
 ·rename_i h1;rw[av h1]at h;exact absurd h h1
 ·rename_i h1;rw[aj h1]at h;split
  ·rename_i h2;rw[av h2]at h;exact absurd h h2
  ·rename_i h2;rw[aj h2]at h;split
   ·rename_i h3;rw[av h3]at h;cases h
   ·rename_i h3;rw[aj h3]at h;exact CI _ _ _ h
def oU {r:Rec}{e:Int×Int}(h0:fZ r.name=true)(h1:iW r.v=true)(h2:¬8<r.needs.length)(h3:¬8<r.bars.length)(hp:ei r=e)(hn:e.1≠0):cH r=e:=by
 rw[cH,aj (by simp[h0]),aj (by simp[h1]),aj (by rintro(h|h);exact h2 h;exact h3 h),av (by rw[hp];exact hn),hp]
def qB {r:Rec}(h0:fZ r.name=true)(h1:iW r.v=true)(h2:¬8<r.needs.length)(h3:¬8<r.bars.length)(hp:ei r=(0,0)):cH r=if 4096<(iT r).length then(3,0)else(0,0):=by
 rw[cH,aj (by simp[h0]),aj (by simp[h1]),aj (by rintro(h|h);exact h2 h;exact h3 h),aj (by rw[hp];simp)]
def qP (r:Rec):Prop:=(fZ r.name=true/\iW r.v=true)/\(r.needs.length<=8/\r.bars.length<=8)/\ei r=(0,0)
def qj (n:Nat)(l:List aq):List aq:=if l.length<=n then l else l.take (n-1)++[bc [32] (l.drop (n-1))]
def eJ (n:Nat)(op:Bool)(t:aq):List aq:=if op=true then qj n (ai t 32)else ai t 32
def eg (w:aq)(n:Nat)(op:Bool)(t:aq):Option (List aq):=
 if(eJ n op t)[0]! =w/\(n=0\/(eJ n op t).length=n)/\[]∉eJ n op t then some (eJ n op t)else none
def cq (w:aq)(n:Nat)(op:Bool):List aq->Option (List aq×List aq)
 |[]=>none
 |t::r=>match eg w n op t with
  |some l=>some (l,r)
  |none=>none
def cn (ls:List aq):aq×List aq:=match cq fP 2 true ls with
 |some (l,r)=>(l[1]!,r)
 |none=>([],ls)
def lC (l:List aq):Bool:=decide (l[3]! =dX) ||decide (l[3]! =mM)
def gX (l:List aq):bD:=⟨l[1]!,l[4]!,if l[2]! =[45]then []else ai l[2]! 44,decide (l[3]! =dX)⟩
def cz:List aq->List bD×List aq
 |[]=>([],[])
 |t::r=>match eg ib 5 true t with
  |some l=>if lC l=true then(gX l::(cz r).1,(cz r).2)else([],t::r)
  |none=>([],t::r)
def oN (ls:List aq):aq×List aq:=match cq di 2 false ls with
 |some (l,r)=>(l[1]!,r)
 |none=>([],ls)
def eN (ls:List aq):ba×List aq:=(⟨(cz ls).1,(cn (cz ls).2).1,(oN (cn (cz ls).2).2).1⟩,(oN (cn (cz ls).2).2).2)
def mZ:Nat->List aq->List ba×List aq
 |0,ls=>([],ls)
 |f+1,ls=>match cq eQ 1 false ls with
  |some (_,r)=>((eN r).1::(mZ f (eN r).2).1,(mZ f (eN r).2).2)
  |none=>([],ls)
def qb:Nat->List aq->List fh×List aq
 |0,ls=>([],ls)
 |f+1,ls=>match cq ic 3 true ls with
  |some (l,r)=>(⟨l[1]!,l[2]!,(cn r).1⟩::(qb f (cn r).2).1,(qb f (cn r).2).2)
  |none=>([],ls)
def dA:List aq->List bF×List aq
 |[]=>([],[])
 |t::r=>match eg cG 0 false t with
  |some l=>if 2<=l.length then(⟨l[1]!,l.drop 2⟩::(dA r).1,(dA r).2)else([],t::r)
  |none=>([],t::r)
def jX:Rec:=⟨[],fH,[],[],[]⟩
def eh (ls:List aq):List ba×List aq:=mZ ls.length ls
def iP (ls:List aq):List fh×List aq:=qb ls.length ls
def sC (nm:aq)(v:cM)(r:List aq):Rec×List aq:=(⟨nm,v,(eh r).1,(iP (eh r).2).1,(dA (iP (eh r).2).2).1⟩,(dA (iP (eh r).2).2).2)
def pz (ls:List aq):Option (Rec×List aq):=match cq dL 3 false ls with
 |some (l,r)=>match fK l[2]! with
  |some v=>some (sC l[1]! v r)
  |none=>none
 |none=>none
def jC {w:aq}{n:Nat}{op:Bool}{ls l r:List aq}(h:cq w n op ls=some (l,r)):r.length+1=ls.length:=by
 match ls,h with
 |t::q,h=>
  simp only[cq]at h;split at h
  ·cases h;rfl
  ·cases h
 |[],h=>cases h
def sb (ls:List aq):(cn ls).2.length<=ls.length:=by
 unfold cn;split
 ·rename_i l r h;have:=jC h;simp only;omega
 ·exact aM _
def KR (ls:List aq):(oN ls).2.length<=ls.length:=by
 unfold oN;split
 ·rename_i l r h;have:=jC h;simp only;omega
 ·exact aM _
def we:∀ls:List aq,(cz ls).2.length<=ls.length
 |[]=>aM _
 |t::r=>by
  have:=we r;simp only[cz];split
  ·split
   ·simp only[ax];omega
   ·exact aM _
  ·exact aM _
def uY (ls:List aq):(eN ls).2.length<=ls.length:=by
 have h1:=we ls;have h2:=sb (cz ls).2;have h3:=KR (cn (cz ls).2).2;show(oN (cn (cz ls).2).2).2.length<=_;omega
def Aq:∀(f g:Nat)(ls:List aq),ls.length<=f->ls.length<=g->mZ f ls=mZ g ls
 |0,0,_,_,_=>rfl
 |0,g+1,ls,h,_=>by
  have:ls=[]:=oP.1 ae;subst this;rfl
 |f+1,0,ls,_,h=>by
  have:ls=[]:=oP.1 ae;subst this;rfl
 |f+1,g+1,ls,hf,hg=>by
  simp only[mZ];cases h:cq eQ 1 false ls with
  |none=>rfl
  |some p=>
   obtain⟨l,r⟩:=p;have h1:=jC h;have h2:=uY r;simp only;rw[Aq f g _ ae ae]
def Ct:∀(f g:Nat)(ls:List aq),ls.length<=f->ls.length<=g->qb f ls=qb g ls
 |0,0,_,_,_=>rfl
 |0,g+1,ls,h,_=>by
  have:ls=[]:=oP.1 ae;subst this;rfl
 |f+1,0,ls,_,h=>by
  have:ls=[]:=oP.1 ae;subst this;rfl
 |f+1,g+1,ls,hf,hg=>by
  simp only[qb];cases h:cq ic 3 true ls with
  |none=>rfl
  |some p=>
   obtain⟨l,r⟩:=p;have h1:=jC h;have h2:=sb r;simp only;rw[Ct f g _ ae ae]
def vR {ls l r:List aq}(h:cq eQ 1 false ls=some (l,r)):eh ls=((eN r).1::(eh (eN r).2).1,(eh (eN r).2).2):=by
 have h1:=jC h;have h2:=uY r;unfold eh;rw[<-h1];simp only[mZ,h];rw[Aq r.length (eN r).2.length _ h2 (aM _)]
def qV {ls:List aq}(h:cq eQ 1 false ls=none):eh ls=([],ls):=by
 unfold eh
 match ls,h with
 |[],_=>rfl
 |t::r,h=>simp only[ax,mZ,h]
def xn {ls l r:List aq}(h:cq ic 3 true ls=some (l,r)):iP ls=(⟨l[1]!,l[2]!,(cn r).1⟩::(iP (cn r).2).1,(iP (cn r).2).2):=by
 have h1:=jC h;have h2:=sb r;unfold iP;rw[<-h1];simp only[qb,h];rw[Ct r.length (cn r).2.length _ h2 (aM _)]
def sK {ls:List aq}(h:cq ic 3 true ls=none):iP ls=([],ls):=by
 unfold iP
 match ls,h with
 |[],_=>rfl
 |t::r,h=>simp only[ax,qb,h]
structure iX where
 r:Rec
 st:Nat
 deriving Inhabited
def nk (t:aq)(n:Nat):Option (List aq×aq):=
 if n<(ai t 32).length/\[]∉(ai t 32).take n/\bc [32] ((ai t 32).drop n)≠[]then some ((ai t 32).take n,bc [32] ((ai t 32).drop n))else none
def uc (l:List aq)(n:Nat):Bool:=decide (l.length=n)&& !l.contains []
def fU {α:Type}(l:List α)(f:α->α):List α:=match l.getLast? with
 |some x=>l.dropLast++[f x]
 |none=>[]
def xO (l:List aq):Option iX:=if(l.length=3/\l[0]! =dL)/\l[1]! ≠[]then(match fK l[2]! with
 |some v=>some ⟨⟨l[1]!,v,[],[],[]⟩,1⟩
 |none=>none)else none
def uB (x:iX)(t:aq):Option iX:=match nk t 4 with
 |some (l,u)=>if x.st=2/\lC l=true then some ⟨{x.r with needs:=fU x.r.needs fun n=>{n with any:=n.any++[⟨l[1]!,u,if l[2]! =[45]then []else ai l[2]! 44,decide (l[3]! =dX)⟩]}},2⟩else none
 |none=>none
def oD (x:iX)(t:aq):Option iX:=match nk t 1 with
 |some (_,u)=>if x.st=2 then some ⟨{x.r with needs:=fU x.r.needs fun n=>{n with when':=u}},3⟩else if x.st=5 then some ⟨{x.r with bars:=fU x.r.bars fun b=>{b with when':=u}},6⟩else none
 |none=>none
def ec (x:iX)(t:aq):Option iX:=
 let l:=ai t 32
 if x.st=0 then xO l
 else if l[0]! =eQ then(if l.length=1/\x.st<5 then some ⟨{x.r with needs:=x.r.needs++[⟨[],[],[]⟩]},2⟩else none)
 else if l[0]! =ib then uB x t
 else if l[0]! =fP then oD x t
 else if l[0]! =di then(if uc l 2=true/\(x.st=2\/x.st=3)then some ⟨{x.r with needs:=fU x.r.needs fun n=>{n with option:=l[1]!}},4⟩else none)
 else if l[0]! =ic then(match nk t 2 with
  |some (w,u)=>if x.st<=6 then some ⟨{x.r with bars:=x.r.bars++[⟨w[1]!,u,[]⟩]},5⟩else none
  |none=>none)
 else if l[0]! =cG then(if 2<=l.length/\uc l l.length=true then some ⟨{x.r with feats:=x.r.feats++[⟨l[1]!,l.drop 2⟩]},7⟩else none)
 else none
def eqBb (a b:Bool):jb (D.bool a).cells (D.bool b).cells=decide (a=b):=by cases a<;>cases b<;>rfl
def bD.v7 (a b:bD):decide (a=b)=(((decide (a.name=b.name)&&decide (a.range=b.range))&&decide (a.bare=b.bare))&&decide (a.feats=b.feats)):=by
 obtain⟨a1,a2,a3,a4⟩:=a;obtain⟨b1,b2,b3,b4⟩:=b;simp only[bD.mk.injEq,Bool.decide_and]
 ac_rfl
def ba.v7 (a b:ba):decide (a=b)=((decide (a.when'=b.when')&&decide (a.option=b.option))&&decide (a.any=b.any)):=by
 obtain⟨a1,a2,a3⟩:=a;obtain⟨b1,b2,b3⟩:=b;simp only[ba.mk.injEq,Bool.decide_and]
 ac_rfl
def ba.UG {a b:ba}(e1:a.when'=b.when')(e2:a.option=b.option)(e3:a.any.length=b.any.length):decide (a=b)=cO (fun i=>decide (a.any[i]! =b.any[i]!)) 0 a.any.length:=by
 rw[ba.v7,bS e1,bS e2,<-pB e3];rfl
def Rec.v7 (a b:Rec):decide (a=b)=((((decide (a.name=b.name)&&decide (a.v=b.v))&&decide (a.needs=b.needs))&&decide (a.bars=b.bars))&&decide (a.feats=b.feats)):=by
 obtain⟨a1,a2,a3,a4,a5⟩:=a;obtain⟨b1,b2,b3,b4,b5⟩:=b;simp only[Rec.mk.injEq,Bool.decide_and]
 ac_rfl
def bF.eq2 {a b:bF}(h1:a.name=b.name)(h2:a.of=b.of):a=b:=by
 obtain⟨a1,a2⟩:=a;obtain⟨b1,b2⟩:=b;simp only at h1 h2;subst h1;subst h2;rfl
def xE {f:Nat->Int}:∀{k i:Nat},uM f i k=0->∀j,i<=j->j<i+k->f j=0
 |0,i,_,j,h1,h2=>absurd h2 ae
 |k+1,i,h,j,h1,h2=>by
  simp only[uM]at h;by_cases hf:f i=0
  ·rw[av hf]at h;by_cases hj:j=i
   ·rw[hj];exact hf
   ·exact xE h j ae ae
  ·rw[aj hf]at h;exact absurd h hf
def ED {f:Nat->Int}{n:Nat}(h:jJ f 0 n=0)(j:Nat)(hj:j<n):f j=0:=xE h j ae ae
def xF {f:Nat->Int}:∀{k i:Nat},(pQ f i k).1=0->∀j,i<=j->j<i+k->f j=0
 |0,i,_,j,h1,h2=>absurd h2 ae
 |k+1,i,h,j,h1,h2=>by
  simp only[pQ]at h;by_cases hf:f i=0
  ·rw[av hf]at h;by_cases hj:j=i
   ·rw[hj];exact hf
   ·exact xF h j ae ae
  ·rw[aj hf]at h;exact absurd h hf
def EC {f:Nat->Int}{n:Nat}(h:(ij f 0 n).1=0)(j:Nat)(hj:j<n):f j=0:=xF h j ae ae
def bD.fit (w:bD):Prop:=w.sm/\(w.feats.length<=6/\∀t∈w.feats,t.length<=12)
def ba.fit (n:ba):Prop:=(n.any.length<=3/\∀w∈n.any,w.fit)/\n.when'.length<=1048576/\n.option.length<=1048576
def bF.fit (x:bF):Prop:=x.sm/\x.of.length<=6
structure Rec.fit (r:Rec):Prop where
 nm:r.name.length<=1048576
 v:r.v.sm
 ns:r.needs.length<=8
 n:∀x∈r.needs,x.fit
 bs:r.bars.length<=8
 b:∀x∈r.bars,x.sm
 fs:r.feats.length<=8
 f:∀x∈r.feats,x.fit
def tY {α:Type} [Inhabited α]{l:List α}{x:α}(h:x∈l):∃i,i<l.length/\l[i]! =x:=by
 obtain⟨i,hi,e⟩:=List.mem_iff_getElem.1 h;exact⟨i,hi,by rw[<-e];simp[hi]⟩
def L5 {r:Rec}{w:bD}{al:Bool}(h:iF r w al=0)(hs:w.sm):w.fit:=by
 refine⟨hs, ?_⟩;unfold iF at h;split at h
 ·rename_i h1;exact absurd h h1
 ·split at h
  ·cases h
  ·rename_i h2;simp only[iU,Bool.not_eq_false,bh,aS,eE]at h2;refine⟨h2.1.1,fun t ht=>?_⟩;obtain⟨i,hi,rfl⟩:=tY ht;have:=h2.2 i ae hi;simp only[N4,cC,bh,aS]at this;exact this.1.1.2
def KD {r:Rec}{n:ba}(h:gU r n=0)(hs:n.sm):n.fit:=by
 unfold gU at h;split at h
 ·cases h
 split at h
 ·cases h
 rename_i h1 h2;split at h
 ·rename_i h3;exact absurd h h3
 rename_i h3;refine⟨⟨ae,fun w hw=>?_⟩,hs.2⟩;obtain⟨i,hi,rfl⟩:=tY hw;exact L5 (ED (Classical.not_not.1 h3) i hi) (hs.1 _ hw)
def Af {r:Rec}(h:qP r/\gV r):r.fit:=by
 obtain⟨⟨_,⟨h1,h2⟩,hp⟩,⟨s1,s2⟩,s3,s4,s5⟩:=h;have h0:(lS r).1=0/\gp r.feats=true:=by
  unfold ei at hp;split at hp
  ·rename_i h;rw[hp]at h;exact absurd rfl h
  split at hp
  ·rename_i h;rw[hp]at h;exact absurd rfl h
  split at hp
  ·cases hp
  rename_i a b c;exact⟨Classical.not_not.1 a,by simpa using c⟩
 obtain⟨h3,h4⟩:=h0;simp only[gp,bh,aS,eE]at h4;refine⟨s1,s2,h1,fun x hx=>?_,h2,s4,h4.1,fun x hx=>⟨s5 x hx, ?_⟩⟩
 ·obtain⟨i,hi,rfl⟩:=tY hx;exact KD (EC h3 i hi) (s3 _ hx)
 ·obtain⟨i,hi,rfl⟩:=tY hx;have:=h4.2 i ae hi;simp only[jI,kO,bh,aS]at this;exact this.2.1.1
def nJ (x:UInt8)(B:Nat):∀l:List aq,(∀t∈l,t.length<=B)->(bc [x] l).length<=l.length*(B+1)
 |[],_=>by simp[bc]
 |[t],h=>by have:=h t (.head _);simp only[bc,ax,az];omega
 |t::u::r,h=>by
  have h1:=h t (.head _);have h2:=nJ x B (u::r) fun y hy=>h y (.tail _ hy)
  simp only[bc,bE,ax,az,Nat.succ_mul]at h2⊢;omega
def y0 {w:bD}(h:w.fit):(bc [44] w.feats).length<=6291462:=by
 have h1:=nJ 44 1048576 w.feats h.1.2;have h2:=ff (1048576+1) h.2.1;omega
def B8 {w:bD}(h:w.fit):(bc [44] w.feats).length<=78:=by
 have h1:=nJ 44 12 w.feats h.2.2;have h2:=ff (12+1) h.2.1;omega
def jl (w:bD):aq:=cw (nt w)
def vC {w:bD}(h:w.fit):(jl w).length<=8400000:=by
 have h1:=y0 h;have h2:=h.1.1;simp only[jl,cw,nt,bc,bE,ax,az];split<;>split<;>simp only[ib,dX,mM,bE,ax,az]<;>omega
def nT {s:aq}(h:s.length<=1048576):(iE s).length<=1048590:=by
 unfold iE;split
 ·simp
 ·simp only[cw,bc,fP,bE,ax,az];omega
def KU {s:aq}(h:s.length<=1048576):(su s).length<=1048590:=by
 unfold su;split
 ·simp
 ·simp only[cw,bc,di,bE,ax,az];omega
def tQ {α:Type}(q:α->aq)(B:Nat){l:List α}(h:∀x∈l,(q x).length<=B)(i:Nat):(((l.take i).map q).flatten).length<=i*B:=by
 have h1:=qK q B (l.take i) fun x hx=>h x (m8 hx)
 have h2:=ff B (List.length_take_le i l);omega
def rS {α:Type} [Inhabited α](q:α->aq){l:List α}{i:Nat}(h:i<l.length):((l.take (i+1)).map q).flatten=((l.take i).map q).flatten++q l[i]! :=by
 rw[List.take_add_one,List.getElem?_eq_getElem h,List.map_append,List.flatten_append];simp[h]
def Il {n:ba}(h:n.fit):(qU n).length<=27400000:=by
 have h1:=qK jl 8400000 n.any fun w hw=>vC (h.1.2 w hw)
 have h2:=ff 8400000 h.1.1;have h3:=nT h.2.1;have h4:=KU h.2.2;have h5:(cw [eQ]).length=5:=rfl;unfold jl at h1;simp only[qU,bE];omega
def JJ {b:fh}(h:b.sm):(wi b).length<=3145800:=by
 have h1:=nT h.2.2;have h2:=h.1;have h3:=h.2.1;simp only[wi,cw,bc,ic,bE,ax,az];omega
def zZ {x:bF}(h:x.fit):(qI x).length<=8400000:=by
 have h1:=nJ 32 1048576 ([cG,x.name]++x.of) (by
  intro t ht;simp only[fu,eY,dr]at ht;rcases ht with rfl|rfl|ht
  ·simp[cG]
  ·exact h.1.1
  ·exact h.1.2.2 _ ht)
 have h2:=h.2;have h3:([cG,x.name]++x.of).length<=8:=by simp only[bE,ax,az];omega
 have h4:=ff (1048576+1) h3;simp only[qI,cw,bE,ax,az]at h1 h4⊢;omega
def HV {r:Rec}(h1:r.name.length<=1048576)(h2:r.v.sm):(qQ r).length<=3145800:=by
 have h3:=yW r.v h2;simp only[qQ,cw,bc,dL,bE,ax,az];omega
def dT (n:ba)(j:Nat):aq:=cw [eQ]++((n.any.take j).map jl).flatten
def Nu (n:ba):dT n 0=[110,101,101,100,10]:=rfl
def og {n:ba}{j:Nat}(h:j<n.any.length):dT n (j+1)=dT n j++jl n.any[j]! :=by simp only[dT,rS jl h,dG]
def uX {n:ba}{j:Nat}(h:n.any.length<=j):qU n=dT n j++iE n.when'++su n.option:=by
 rw[dT,eK h];rfl
def Ao {n:ba}(h:n.fit)(j:Nat)(hj:j<=3):(dT n j).length<=25200005:=by
 have h1:=tQ jl 8400000 (fun w hw=>vC (h.1.2 w hw)) j;have h2:=ff 8400000 hj;have h5:(cw [eQ]).length=5:=rfl;simp only[dT,bE];omega
def kH (r:Rec)(i:Nat):aq:=qQ r++((r.needs.take i).map qU).flatten
def yT (r:Rec)(i:Nat):aq:=kH r r.needs.length++((r.bars.take i).map wi).flatten
def AS (r:Rec)(i:Nat):aq:=yT r r.bars.length++((r.feats.take i).map qI).flatten
def LX (r:Rec):kH r 0=qQ r:=by simp[kH]
def LY (r:Rec):yT r 0=kH r r.needs.length:=by simp[yT]
def LZ (r:Rec):AS r 0=yT r r.bars.length:=by simp[AS]
def B5 (r:Rec):AS r r.feats.length=iT r:=by simp only[AS,yT,kH,List.take_length,iT]
def mK {r:Rec}{i:Nat}(h:i<r.needs.length):kH r (i+1)=kH r i++qU r.needs[i]! :=by simp only[kH,rS qU h,dG]
def DZ {r:Rec}{i:Nat}(h:i<r.bars.length):yT r (i+1)=yT r i++wi r.bars[i]! :=by simp only[yT,rS wi h,dG]
def D0 {r:Rec}{i:Nat}(h:i<r.feats.length):AS r (i+1)=AS r i++qI r.feats[i]! :=by simp only[AS,rS qI h,dG]
def B3 {r:Rec}(h:r.fit)(i:Nat)(hi:i<=r.needs.length):(kH r i).length<=222400000:=by
 have a0:=HV h.nm h.v;have a1:=tQ qU 27400000 (fun x hx=>Il (h.n x hx)) i;have b1:=ff 27400000 (cW hi h.ns);simp only[kH,bE];omega
def B4 {r:Rec}(h:r.fit)(i:Nat)(hi:i<=r.bars.length):(yT r i).length<=247600000:=by
 have a0:=B3 h r.needs.length (aM _);have a1:=tQ wi 3145800 (fun x hx=>JJ (h.b x hx)) i;have b1:=ff 3145800 (cW hi h.bs);simp only[yT,bE];omega
def G9 {r:Rec}(h:r.fit)(i:Nat)(hi:i<=r.feats.length):(AS r i).length<=314800000:=by
 have a0:=B4 h r.bars.length (aM _);have a1:=tQ qI 8400000 (fun x hx=>zZ (h.f x hx)) i;have b1:=ff 8400000 (cW hi h.fs);simp only[AS,bE];omega
def vH {r:Rec}(h:(cH r).1=0):qP r:=by
 unfold cH at h;split at h
 ·cases h
 split at h
 ·cases h
 split at h
 ·cases h
 rename_i a b c;split at h
 ·rename_i d;exact absurd h d
 rename_i d;exact⟨⟨by simpa using a,by simpa using b⟩,⟨ae,ae⟩,Di (Classical.not_not.1 d)⟩
def dF (l:List aq):cM×Bool:=if l.length=3 then(⟨dU l[0]!,dU l[1]!,dU l[2]!,[],[]⟩,(fo l[0]! &&fo l[1]!)&&fo l[2]!)else(fH,false)
def JV {c:UInt8}(h:bB c.toNat=true):dg (c.toNat-48)=c:=by
 simp only[bB,bh,aS]at h;have h1:48<=c.toNat:=ae;have h2:c.toNat<=57:=ae;apply jo.1;simp only[dg];simp;omega
def vI (s:aq)(h0:s≠[])(hd:∀c∈s,bB c.toNat=true)(hz:1<s.length->at8 s 0≠48):dQ (dJ s)=s:=by
 obtain⟨r,c,rfl⟩:∃r c,s=r++[c]:=⟨s.dropLast,s.getLast h0,(List.dropLast_concat_getLast h0).symm⟩
 have hc:=hd c aN;have hc2:=hc;simp only[bB,bh,aS]at hc2;rw[E3];by_cases hr:r=[]
 ·subst hr;have:dJ ([]:aq)=0:=rfl;rw[this,pN ae];simp[JV hc]
 ·have hz0:at8 (r++[c]) 0≠48:=hz (by have:=List.length_pos_iff.2 hr;simp only[bE,List.length_singleton];omega);have e0:at8 (r++[c]) 0=at8 r 0:=by
   cases r with
   |nil=>exact absurd rfl hr
   |cons b q=>rfl
  have ih:=vI r hr (fun x hx=>hd x (by simp[hx])) (fun _=>by rw[<-e0];exact hz0);have hn:1<=dJ r:=by
   cases r with
   |nil=>exact absurd rfl hr
   |cons b q=>
    have hb:=hd b aN;simp only[bB,bh,aS]at hb;have hb0:at8 (b::q) 0=b.toNat:=rfl;rw[e0,hb0]at hz0;have:=Au (b:=b) (r:=q) ae;have hp:0<10^q.length:=Nat.pow_pos ae;omega
  rw[pM ae,show(dJ r*10+(c.toNat-48)) /10=dJ r by omega,show(dJ r*10+(c.toNat-48))%10=c.toNat-48 by omega,ih,JV hc]
termination_by s.length
decreasing_by all_goals simp_all
def uG {t:aq}(h:fo t=true):dQ (dU t).toNat=t:=by
 have h2:=h;simp only[fo,bh,aS,eE,bn,dt,bj]at h2;obtain⟨⟨⟨⟨h3,_⟩,h4⟩,h5⟩,_⟩:=h2;rw[dU,av h,Int.toNat_natCast];refine vI t (by rintro rfl;simp at h3) (fun c hc=>?_) (fun h=>?_)
 ·obtain⟨i,hi,rfl⟩:=List.mem_iff_getElem.1 hc;have:=h5 i ae hi;simpa[at8,hi]using this
 ·rcases h4 with h4|h4
  ·omega
  ·exact h4
def pZ (s:aq)(b:Int):s.take (aD s b).2.length=(aD s b).2:=by
 unfold aD ju;split
 ·rename_i k h;simp only[dq];rw[List.take_eq_take_iff];simp
 ·simp
def lX (s:aq)(b:Int):(s.drop (aD s b).2.length=[]/\(aD s b).1=[])\/∃x:UInt8,(x.toNat:Int)=b/\s.drop (aD s b).2.length=x::(aD s b).1:=by
 unfold aD ju;split
 ·rename_i k h;right;obtain⟨hk,hx,_⟩:=List.findIdx?_eq_some_iff_getElem.1 h;simp only[bR]at hk hx;refine⟨s[k],by simpa using hx, ?_⟩;simp only[dq,bK];rw[show min k s.length=k by omega,jP hk]
 ·left;simp
def dp (s:aq):cM:=⟨(dF (ai (aD (aD s 43).2 45).2 46)).1.major,(dF (ai (aD (aD s 43).2 45).2 46)).1.minor,(dF (ai (aD (aD s 43).2 45).2 46)).1.patch,(aD (aD s 43).2 45).1,(aD s 43).1⟩
def Cx {s:aq}{b:Int}{a r:aq}(h:(s.drop (aD s b).2.length=[]/\(aD s b).1=[])\/∃x:UInt8,(x.toNat:Int)=b/\s.drop (aD s b).2.length=x::(aD s b).1)(x:UInt8)(hx:(x.toNat:Int)=b):((s.drop (aD s b).2.length).length≠1->s.drop (aD s b).2.length=if(aD s b).1=[]then []else x::(aD s b).1)/\((s.drop (aD s b).2.length).length=1->(aD s b).1=[]):=by
 rcases h with⟨h1,h2⟩|⟨y,hy,h1⟩
 ·rw[h1,h2];simp
 ·have:y=x:=jo.1 ae;subst this;rw[h1];refine⟨fun h=>?_,fun h=>?_⟩
  ·rw[aj];intro e;rw[e]at h;simp at h
  ·simpa using h
def L2 (s:aq):fK s=if(((dF (ai (aD (aD s 43).2 45).2 46)).2=true/\((aD s 43).2.drop (aD (aD s 43).2 45).2.length).length≠1)/\(s.drop (aD s 43).2.length).length≠1)/\iW (dp s)=true then some (dp s)else none:=by
 have t1:=pZ s 43;have d1:=Cx (a:=[]) (r:=[]) (lX s 43) 43 rfl;have t2:=pZ (aD s 43).2 45;have d2:=Cx (a:=[]) (r:=[]) (lX (aD s 43).2 45) 45 rfl;have e1:=List.take_append_drop (aD s 43).2.length s;have e2:=List.take_append_drop (aD (aD s 43).2 45).2.length (aD s 43).2;rw[t1]at e1;rw[t2]at e2;unfold fK dp;dsimp only;generalize aD s 43=A at*
 generalize aD A.2 45=B at*
 have hj:=kt (b:=46) (x:=46) rfl B.2;generalize ai B.2 46=L at*
 unfold dF;by_cases hT:L.length=3/\fo L[0]! =true/\fo L[1]! =true/\fo L[2]! =true
 ·rw[av hT];obtain⟨h3,n0,n1,n2⟩:=hT;rw[av h3];simp only[n0,n1,n2,Bool.and_self,bU];by_cases hv:iW ⟨dU L[0]!,dU L[1]!,dU L[2]!,B.1,A.1⟩=true
  ·simp only[hv,bU,b9,mL,aH,wH,uG n0,uG n1,uG n2];have hB:L[0]! ++([46]:aq)++L[1]! ++([46]:aq)++L[2]! =B.2:=by
    rw[<-hj]
    match L,h3 with
    |[a,b,c],_=>simp[bc]
   rw[hB];by_cases c1:(s.drop A.2.length).length=1
   ·have h1:=d1.2 c1;rw[aj,aj (fun h=>h.2 c1)];intro h;have h':=ak List.length h;have h2:=ak List.length e1;have h4:=ak List.length e2;simp only[h1,aH,bE,az]at h' h2 h4;by_cases c2:(A.2.drop B.2.length).length=1
    ·rw[av (d2.2 c2)]at h';simp only[az]at h';omega
    ·rw[<-d2.1 c2]at h';omega
   ·by_cases c2:(A.2.drop B.2.length).length=1
    ·have h1:=d2.2 c2;rw[aj,aj (fun h=>h.1 c2)];intro h;have h':=ak List.length h;have h2:=ak List.length e1;have h4:=ak List.length e2;rw[<-d1.1 c1]at h';simp only[h1,aH,bE,az]at h' h2 h4;omega
    ·rw[<-d1.1 c1,<-d2.1 c2,e2,e1,av rfl,av ⟨c2,c1⟩]
  ·rw[aj (fun h=>hv h.1),aj (fun h=>hv h.2)]
 ·rw[aj hT,aj];rintro⟨⟨⟨h,_⟩,_⟩,_⟩;split at h
  ·rename_i h3;simp only[bh]at h;exact hT ⟨h3,h.1.1,h.1.2,h.2⟩
  ·cases h
def FO {s:aq}{b:Int}(h:s.drop (aD s b).2.length≠[]):1<=(s.drop (aD s b).2.length).length/\(s.drop (aD s b).2.length).drop 1=(aD s b).1:=by
 rcases lX s b with⟨h1,_⟩|⟨x,_,h1⟩
 ·exact absurd h1 h
 ·rw[h1];simp
def FN {s:aq}{b:Int}(h:s.drop (aD s b).2.length=[]):(aD s b).1=[]:=by
 rcases lX s b with⟨_,h1⟩|⟨x,_,h1⟩
 ·exact h1
 ·rw[h1]at h;cases h
def FP (l:List aq):(dF l).1=⟨(dF l).1.major,(dF l).1.minor,(dF l).1.patch,[],[]⟩:=by
 unfold dF;split<;>rfl
def tT (l:List aq)(x:aq)(i:Nat):Int:=match(l.drop i).findIdx? (fun t=>decide (x=t))with
 |some k=>((i+k:Nat):Int)
 |none=>-1
def Nb {l:List aq}{x:aq}{i:Nat}(h:i<l.length)(he:x=l[i]!):tT l x i=(i:Nat):=by
 unfold tT;rw[jP h,List.findIdx?_cons];have:x=l[i]:=by simpa[h]using he
 simp[<-this]
def Nc {l:List aq}{x:aq}{i:Nat}(h:i<l.length)(he:¬x=l[i]!):tT l x i=tT l x (i+1):=by
 unfold tT;have:¬x=l[i]:=by simpa[h]using he
 rw[jP h,List.findIdx?_cons];simp only[this,decide_false,ey,aI];cases(l.drop (i+1)).findIdx? (fun t=>decide (x=t))with
 |none=>rfl
 |some k=>simp only[Option.map_some];congr 1;omega
def Kg {l:List aq}{x:aq}{i:Nat}(h:l.length<=i):tT l x i=-1:=by
 unfold tT;rw[mg h];rfl
def Kh (l:List aq)(x:aq):decide (0<=tT l x 0)=decide (x∈l):=by
 unfold tT;rw[bR];cases h:l.findIdx? (fun t=>decide (x=t))with
 |none=>
  have:=List.findIdx?_eq_none_iff.1 h;have hn:x∉l:=fun hm=>by have:=this x hm;simp at this
  simp[hn]
 |some k=>
  obtain⟨hk,hx,_⟩:=List.findIdx?_eq_some_iff_getElem.1 h;have hm:x∈l:=by
   have:x=l[k]:=by simpa using hx
   rw[this];exact List.getElem_mem hk
  simp[hm]
structure Ld where
 ls:List aq
 at':Nat
 deriving Inhabited,DecidableEq
def Ld.D (r:Ld):D:=.agg [.sl 1 (r.ls.map D.str),.int .i64 (r.at':Nat)]
def Ld.rest (r:Ld):List aq:=r.ls.drop r.at'
def Ld.sm (r:Ld):Prop:=(r.at'<=r.ls.length/\r.ls.length<=1048577)/\∀t∈r.ls,t.length<=1048576
def Ld.to (r:Ld)(q:List aq):Ld:=⟨r.ls,r.ls.length-q.length⟩
def lg (n:Int)(t:aq):List aq:=if n<0 then ai t 32 else qj n.toNat (ai t 32)
def AW (n:Nat)(op:Bool)(t:aq):lg (if op=true then(n:Int)else-1) t=eJ n op t:=by
 unfold lg eJ;cases op
 ·rfl
 ·have:¬(n:Int)<0:=ae;simp[this]
def zC:Option (List aq×List aq)->D
 |none=>.aC
 |some (l,_)=>.sl 1 (l.map D.str)
def Ld.after (r:Ld)(o:Option (List aq×List aq)):Ld:=match o with
 |none=>r
 |some _=>⟨r.ls,r.at'+1⟩
def Ld.LF {r:Ld}(h:r.ls.length<=r.at'):r.rest=[]:=mg h
def Ld.r6 {r:Ld}(h:r.at'<r.ls.length):r.rest=r.ls[r.at']! ::r.ls.drop (r.at'+1):=by
 unfold Ld.rest;rw[jP h];simp[h]
def I4 (n:Nat)(op:Bool)(t:aq)(h:op=true->1<=n):1<=(eJ n op t).length:=by
 have hs:1<=(ai t 32).length:=by
  exact fq 32 t []
 unfold eJ;split
 ·rename_i ho;have:=h ho;unfold qj;split
  ·exact hs
  ·simp
 ·exact hs
def C8 {w:aq}{n:Nat}{op:Bool}{t:aq}(h:((¬(eJ n op t)[0]! =w\/((eJ n op t).length:Int)<1)\/((0:Int)<n/\¬((eJ n op t).length:Int)=n))\/[]∈eJ n op t)(h1:1<=(eJ n op t).length):eg w n op t=none:=by
 rw[eg,aj];rintro⟨a,b,c⟩;rcases h with((h|h)|h)|h
 ·exact h a
 ·omega
 ·rcases b with b|b<;>omega
 ·exact c h
def As {w:aq}{n:Nat}{op:Bool}{t:aq}(h:(((eJ n op t)[0]! =w/\¬((eJ n op t).length:Int)<1)/\(¬(0:Int)<n\/((eJ n op t).length:Int)=n))/\¬[]∈eJ n op t):eg w n op t=some (eJ n op t):=by
 rw[eg,av ⟨h.1.1.1,by rcases h.1.2 with h|h<;>omega,h.2⟩]
end Go.Abs
