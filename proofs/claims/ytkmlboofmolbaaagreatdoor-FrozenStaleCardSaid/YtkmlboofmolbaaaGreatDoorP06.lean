/- A part of the proofs. -/
import Derived.Test.YtkmlboofmolbaaaGreatDoorP05
set_option linter.all false
set_option maxRecDepth 60000
set_option maxHeartbeats 2000000
namespace Go.Abs
variable{c:List Int}{α:Type}{n k j:Nat}{f:Nat->Int}(l:List au){nm:au}{vs:Nat->List ca}(P:Program){σ:List (Nat×Nat)}{m2:List (Nat×bn)}{a b:Int}{af:aj}(C:Ctx->Prop)(Z:Ctx)
abbrev RT:=List D->D->Prop
abbrev FT:=D->List D->D->D->Prop
variable{A:FT->Prop}
abbrev TT:=List D->St->(D->St->Prop)->Prop
def KM (T:TT):=∀ds st K K',(∀d st',K d st'->K' d st')->T ds st K->T ds st K'
def Hm (A:RT->Prop):RT:=λds d=>∀T,A T->T ds d
def og (A:FT->Prop):FT:=λd ds v s=>∀T,A T->T d ds v s
def afI (T:TT):Ctx:=⟨λ_ _=>False,λ_ _=>.any,λ_=>T,λ_ _ _=>False,λ_ _ _=>.any,λ_ _ _=>.any,0⟩
def XG:TT:=λds st K=>∀T,KM T->C (afI T)->T ds st K
def LI:KM (XG C):=λ_ _ _ _ h h1 T hT hC=>hT _ _ _ _ h (h1 T hT hC)
def noR:RT:=λ_ _=>False
def noF:FT:=λ_ _ _ _=>False
def noT:TT:=λ_ _ _=>False
def C4:KM noT:=λ_ _ _ _ _ h=>h.elim
structure mO where
 key:Nat
 rel:RT
 mu:List D->Nat
 relF:FT
 tr:TT
 muE:List D->St->Nat
 mono:KM tr
variable(t:List (Nat×mO))
def mu0:List D->Nat:=λ_=>0
def muE0:List D->St->Nat:=λ_ _=>0
def nb:mO:=⟨0,noR,mu0,noF,noT,muE0,C4⟩
def rP (k:Nat)(A:RT->Prop)(mu:List D->Nat:=mu0):mO:=⟨k,Hm A,mu,noF,noT,muE0,C4⟩
def rF (k:Nat)(A:FT->Prop):mO:=⟨k,noR,mu0,og A,noT,muE0,C4⟩
def rG (k:Nat)(C:Ctx->Prop)(mu:List D->St->Nat:=muE0):mO:=⟨k,noR,mu0,noF,XG C,mu,LI C⟩
noncomputable def pick (r:D->Prop):D:=Classical.epsilon r
def lO {r:D->Prop}(h:∃d,r d):r (pick r):=Classical.epsilon_spec h
def Det (R:RT):=∀ds d d',R ds d->R ds d'->d=d'
def yG (R:FT):=∀d ds v s v' s',R d ds v s->R d ds v' s'->v=v'/\s=s'
def ahs {A:RT->Prop}(h:A λds d=>A λds' d'=>ds'=ds->d=d'):Det (Hm A):=λds d d' h1 h2=>h2 _ (h1 _ h) rfl
def aco (h:A λd ds v s=>A λd' ds' v' s'=>d'=d->ds'=ds->v=v'/\s=s'):yG (og A):=λd ds v s v' s' h1 h2=>h2 _ (h1 _ h) rfl rfl
noncomputable def ER:Ctx where
 pre n ds:=∃d,(lk t n nb).rel ds d
 val n ds:=pick ((lk t n nb).rel ds)
 tr n:=(lk t n nb).tr
 fp n d ds:=∃v s,(lk t n nb).relF d ds v s
 fv n d ds:=pick λv=>∃s,(lk t n nb).relF d ds v s
 fs n d ds:=pick λs=>∃v,(lk t n nb).relF d ds v s
 lo:=0
def Zi:Rank:=⟨λn=>(lk t n nb).key,λn=>(lk t n nb).mu,λn=>(lk t n nb).muE⟩
noncomputable abbrev under (t:List (Nat×mO))(k u:Nat):Ctx:=(ER t).under (Zi t) k u
def Gq (k u n:Nat):(((ER t).under (Zi t) k u).at n).cb:=
 λf ds st K K' h hh=>⟨hh.1,(lk t f nb).mono ds st K K' h hh.2⟩
section
variable {t:List (Nat×mO)}{u:Nat}{ds:List D}{d v s:D}{st:St}{K:D->St->Prop}
def okp (hD:Det (lk t n nb).rel)(hk:(lk t n nb).key<k\/(lk t n nb).key=k/\(lk t n nb).mu ds<u)(h:(lk t n nb).rel ds d):(under t k u).pre n ds/\(under t k u).val n ds=d:=
 ⟨⟨hk,d,h⟩,hD _ _ _ (lO ⟨d,h⟩) h⟩
def okf (hD:yG (lk t n nb).relF)(hk:(lk t n nb).key<k)(h:(lk t n nb).relF d ds v s):(under t k u).fp n d ds/\(under t k u).fv n d ds=v/\(under t k u).fs n d ds=s:=by
 refine⟨⟨.inl hk,v,s,h⟩, ?_, ?_⟩
 .obtain⟨s',h'⟩:=lO (r:=λv=>∃s,(lk t n nb).relF d ds v s) ⟨v,s,h⟩;exact(hD _ _ _ _ _ _ h' h).1
 .obtain⟨v',h'⟩:=lO (r:=λs=>∃v,(lk t n nb).relF d ds v s) ⟨s,v,h⟩;exact(hD _ _ _ _ _ _ h' h).2
def RS (hk:(lk t n nb).key<k\/(lk t n nb).key=k/\(lk t n nb).muE ds st<u)(h:(lk t n nb).tr ds st K):(under t k u).tr n ds st K:=⟨hk,h⟩
end
section
variable [cP]{P:Program}{ν:List (Nat×Nat)}{bU:List Nat}{Y:Ctx}{t:List (Nat×mO)}{fid key:Nat}
def KJ (P:Program)(ν:List (Nat×Nat))(bU:List Nat)(Y:Ctx)(fid:Nat)(ds:List D)(d:D):Prop:=Ok P ν bU Y->∀(x:X) (args:Array Value),args.size=ds.length->(∀i,i<ds.length->RD ν x (args.getD i undef) (ds.getD i .any))->aM ds=true->
  (∀b,x.I b->b<x.w.heap.size)->cP.gd x->jP P x (λv x'=>nW x x'/\RD ν x' v d) ((callFunc fid args).run P x.w)
def QG (P:Program)(ν:List (Nat×Nat))(bU:List Nat)(Y:Ctx)(fid:Nat)(d:D)(ds:List D)(vd new:D):Prop:=Ok P ν bU Y->∀(x:X) (f:Nat->Option bn) (args:Array Value) (l k:Nat),args.size=ds.length+1->
   RD ν x (args.getD 0 undef) (.ptr l k 0 0)->(∀i,i<ds.length->RD ν x (args.getD (i+1) undef) (ds.getD i .any))->fI ν x f->f l=some (.buf k [d])->d.aT=true->aM ds=true->
   jP P x (λv x'=>Step x x'/\RD ν x' v vd/\fI ν x' (λl'=>if l'=l then some (.buf k [new])else f l')/\x'.β=x.β) ((callFunc fid args).run P x.w)
def uS (P:Program)(ν:List (Nat×Nat))(bU:List Nat)(Y:Ctx)(fid:Nat)(ds:List D)(st:St)(K:D->St->Prop):Prop:=Ok P ν bU Y->∀(x:X) (args:Array Value),args.size=ds.length->(∀i,i<ds.length->RD ν x (args.getD i undef) (ds.getD i .any))->fI ν x (look st.m)->fm st x->
  jP P x (λv x'=>∃d st',K d st'/\Step x x'/\RD ν x' v d/\fI ν x' (look st'.m)/\fm st' x') ((callFunc fid args).run P x.w)
structure Owe (P:Program)(ν:List (Nat×Nat))(bU:List Nat)(t:List (Nat×mO))(fid n:Nat):Prop where
 p:∀ds d,(lk t n nb).rel ds d->KJ P ν bU (under t (lk t n nb).key ((lk t n nb).mu ds)) fid ds d
 f:yG (lk t n nb).relF/\∀d ds v s,(lk t n nb).relF d ds v s->QG P ν bU (under t (lk t n nb).key ((lk t n nb).mu (d::ds))) fid d ds v s
 g:∀ds st K,(lk t n nb).tr ds st K->uS P ν bU (under t (lk t n nb).key ((lk t n nb).muE ds st)) fid ds st K
def okA (hsm:∀fid n,dP ν fid=some n->n<1000000)(hB:∀t,bU.contains (1000000000+t)=true->t=cP.tB)(hG:∀g,bU.contains (500000000+g)=true/\g<400000000->cP.gz g)(h:∀fid n,dP ν fid=some n->Owe P ν bU t fid n):Ok P ν bU (ER t):=by
 refine ok_of (Zi t) hsm hB hG (λfid n hn ds hp hok=>(h fid n hn).p ds _ (lO hp) hok) (λfid n hn _ d ds hp hok=>?_) (λfid n hn ds st K htr hok=>(h fid n hn).g ds st K htr hok);obtain⟨v,s,hr⟩:=hp;obtain⟨hD,hf⟩:=(h fid n hn).f;have h2:(ER t).fv n d ds=v/\(ER t).fs n d ds=s:=by
  constructor
  .obtain⟨s',h'⟩:=lO (r:=λv=>∃s,(lk t n nb).relF d ds v s) ⟨v,s,hr⟩;exact(hD _ _ _ _ _ _ h' hr).1
  .obtain⟨v',h'⟩:=lO (r:=λs=>∃v,(lk t n nb).relF d ds v s) ⟨s,v,hr⟩;exact(hD _ _ _ _ _ _ h' hr).2
 rw[h2.1,h2.2];exact hf d ds v s hr hok
def HA {Y:D->List D->Ctx}:yG noF/\∀d ds v s,noF d ds v s->QG P ν bU (Y d ds) fid d ds v s:=⟨λ_ _ _ _ _ _ h=>h.elim,λ_ _ _ _ h=>h.elim⟩
def aO {A:RT->Prop}{mu:List D->Nat}(hr:lk t n nb=rP key A mu)(h:A λds d=>KJ P ν bU (under t key (mu ds)) fid ds d):Owe P ν bU t fid n:=by
 refine⟨?_, ?_, ?_⟩<;>rw[hr]
 .exact λds d hd=>hd (λds d=>KJ P ν bU (under t key (mu ds)) fid ds d) h
 .exact HA
 .exact λ_ _ _ h=>h.elim
def O7 (hr:lk t n nb=rF key A)(hD:yG (og A))(h:A λd ds v s=>QG P ν bU (under t key 0) fid d ds v s):Owe P ν bU t fid n:=by
 refine⟨?_, ?_, ?_⟩<;>rw[hr]
 .exact λ_ _ h=>h.elim
 .exact⟨hD,λd ds v s hd=>hd _ h⟩
 .exact λ_ _ _ h=>h.elim
def TG {Y:List D->St->Ctx}:KM λds st K=>uS P ν bU (Y ds st) fid ds st K:=λds st K K' h hg hok x args hl ha hs hf=>(hg hok x args hl ha hs hf).mono λv x' ⟨d,st',h1,h2⟩=>⟨d,st',h _ _ h1,h2⟩
def zb {C:Ctx->Prop}{mu:List D->St->Nat}(hr:lk t n nb=rG key C mu)(h:C (afI λds st K=>uS P ν bU (under t key (mu ds st)) fid ds st K)):Owe P ν bU t fid n:=by
 refine⟨?_, ?_, ?_⟩<;>rw[hr]
 .exact λ_ _ h=>h.elim
 .exact HA
 .exact λds st K hd=>hd (λds st K=>uS P ν bU (under t key (mu ds st)) fid ds st K) TG h
def Vc (P:Program)(ν:List (Nat×Nat))(bU:List Nat)(fid:Nat)(af:aj):Prop:=(P.funcs[fid]?).map (λf=>(compile P ν bU f,f.name== "runtime.NumGoroutine"))=some (some af,false)
theorem Vc.split (h:Vc P ν bU fid af):∃fn,P.funcs[fid]? =some fn/\compile P ν bU fn=some af/\(fn.name== "runtime.NumGoroutine")=false:=by
 grind [Vc]
def av {ds:List D}{d:D}(hmix:P.follows .mixedOrders=true)(hC:Vc P ν bU fid af)(h1:ds.length=af.np)(h2:dx (Y.at 0) af.body (NX af d) (fU af ds) ⟨0,[]⟩):KJ P ν bU Y fid ds d:=by
 intro hok x args hl hargs hnl himm hgd;obtain⟨fn,hf,hc,hn⟩:=hC.split;obtain⟨body,c1,_⟩:=gK hc;exact .inr ⟨fid,args,ig hf hn (by rw[c1];rfl) args x.w,acQ hok hmix hf hc hl hargs hnl himm hgd h1 h2⟩
theorem Cv {d:D}{ds:List D}{vd new:D}(k0:Nat)(hmix:P.follows .mixedOrders=true)(hC:Vc P ν bU fid af)(h1:ds.length+1=af.np)(hk:d.cells.length=k0)(h2:dx (Y.at 1) af.body (GL af k0 vd new) (fU af (.ptr 0 k0 0 0::ds)) ⟨1,[(0,.buf k0 [d])]⟩):QG P ν bU Y fid d ds vd new:=by
 intro hok x f args l k hl h0 hargs hs hfl hd hnl;obtain⟨fn,hf,hc,hn⟩:=hC.split;obtain⟨body,c1,_⟩:=gK hc;have hkk:k=k0:=by
  generalize args.getD 0 undef=v0 at h0;cases h0 with
  |ptr _ _ _ _ b base tot at_ hβ hat=>
   obtain⟨p1,p2,c,T,fr,p3,p4,p5,p6⟩:=(hs.own l _ b base tot hfl hβ).2;have:=(p6 0 aB).1
   grind
 subst hkk;exact .inr ⟨fid,args,ig hf hn (by rw[c1];rfl) args x.w,acO hok hmix hf hc hl h0 hargs hs hfl hd hnl h1 h2⟩
theorem Lr {ds:List D}{st:St}{K:D->St->Prop}{σi:List (Nat×Nat)}{q:Nat}{m0:List (Nat×bn)}{cs:List D}{Q:D->List (Nat×bn)->Prop}(hmono:∀q,(Y.at q).cb)(hmix:P.follows .mixedOrders=true)(hC:Vc P ν bU fid af)(h1:cs.length=ds.length)(h2:∀i,i<ds.length->RnD 0 σi (ds.getD i .any) (cs.getD i .any))(h3:cs.length=af.np)(h4:gU 0 q σi=true)(h5:∀l i,(l,i)∈σi->look st.m l≠none)(h6:∀i b,look m0 i=some b->∃l b',(l,i)∈σi/\look st.m l=some b'/\qv 0 σi b' b)(h7:dx (Y.at q) af.body (uG af Q) (fU af cs) ⟨q,m0⟩)(h8:∀d m1,Q d m1->∃(σo:List (Nat×Nat)) (q1:Nat) (st':St) (vd':D),Fr σi σo q q1 m0 m1 st st'/\RnD 0 σo d vd'/\K vd' st'):uS P ν bU Y fid ds st K:=by
 intro hok x args hl hargs hs hfr;obtain⟨fn,hf,hc,hn⟩:=hC.split;obtain⟨body,c1,_⟩:=gK hc;refine .inr ⟨fid,args,ig hf hn (by rw[c1];rfl) args x.w, ?_⟩;refine Calls.mono (acP (K:=K) hok hmix hf hc hl hargs hs hfr h1 h2 h3 h4 h5 h6 (iv (hmono q) _ _ _ _ _ (λe env st1 h=>?_) h7)) λe w' he=>?_
 .obtain⟨g1,g2,m1,g3,g4⟩:=h
  grind
 grind
end
theorem kU {α:Type}{f:α->D}(hf:∀x y,f x=f y↔x=y):∀a b:List α,a.map f=b.map f↔a=b
 |[],[]=>aB
 |[],_::_=>aB
 |_::_,[]=>aB
 |x::a,y::b=>by simp only[List.map_cons,te,hf,kU hf a b]
def iNat (a b:Nat):((a:Nat):Int)=(b:Nat)↔a=b:=ae
theorem iU8 (x y:UInt8):((x.toNat:Nat):Int)=(y.toNat:Nat)↔x=y:=(iNat _ _).trans pD
def Xo (a b:List au):a.map D.str=b.map D.str↔a=b:=kU (λ_ _=>aB) a b
def TM (a b:List Int):a.map (D.int .i64)=b.map (D.int .i64)↔a=b:=kU (λ_ _=>aB) a b
theorem iByt (a b:au):(a.map λc=>D.int .u8 c.toNat)=(b.map λc=>D.int .u8 c.toNat)↔a=b:=by grind [kU,iU8]
def iVer (a b:ca):ca.D a=ca.D b↔a=b:=by cases a;cases b;simp[ca.D]
structure Cut where
 e:Int
 v:ca
 a:Bool
 deriving Inhabited,DecidableEq
def Cut.D (c:Cut):D:=.agg [.int .i64 c.e,.int .i64 c.v.major,.int .i64 c.v.minor,.int .i64 c.v.patch,.str c.v.pre,.str c.v.build,.bool c.a]
structure Span where
 f:Cut
 t:Cut
 deriving Inhabited,DecidableEq
def Span.D (s:Span):D:=.agg [.int .i64 s.f.e,.int .i64 s.f.v.major,.int .i64 s.f.v.minor,.int .i64 s.f.v.patch,.str s.f.v.pre,.str s.f.v.build,.bool s.f.a,
 .int .i64 s.t.e,.int .i64 s.t.v.major,.int .i64 s.t.v.minor,.int .i64 s.t.v.patch,.str s.t.v.pre,.str s.t.v.build,.bool s.t.a]
structure cA where
 rel:List Span
 pr:List Span
 deriving Inhabited,DecidableEq
def cA.D (s:cA):D:=.agg [.sl 14 (s.rel.map Span.D),.sl 14 (s.pr.map Span.D)]
structure Want where
 u:Int
 s:cA
 deriving Inhabited,DecidableEq
def Want.D (w:Want):D:=.agg [.int .i64 w.u,.sl 14 (w.s.rel.map Span.D),.sl 14 (w.s.pr.map Span.D)]
abbrev nX:=List Want
def jI (r:nX):D:=.sl 3 (r.map Want.D)
structure eA where
 v:ca
 sh:Int
 needs:List nX
 bars:List Want
 deriving Inhabited,DecidableEq
def eA.D (c:eA):D:=.agg [.int .i64 c.v.major,.int .i64 c.v.minor,.int .i64 c.v.patch,.str c.v.pre,.str c.v.build,.int .i64 c.sh,.sl 1 (c.needs.map jI),.sl 3 (c.bars.map Want.D)]
structure cJ where
 name:au
 feat:au
 cands:List eA
 deriving Inhabited,DecidableEq
def cJ.D (u:cJ):D:=.agg [.str u.name,.str u.feat,.sl 8 (u.cands.map eA.D)]
structure bR where
 us:List cJ
 deriving Inhabited,DecidableEq
def bR.D (w:bR):D:=.agg [.sl 3 (w.us.map cJ.D)]
structure ea where
 u:Int
 m:Int
 deriving Inhabited,DecidableEq
def ea.D (t:ea):D:=.agg [.int .i64 t.u,.int .i64 t.m]
structure jr where
 kind:Int
 unit:Int
 a:Int
 b:Int
 terms:List ea
 deriving Inhabited,DecidableEq
def jr.D (r:jr):D:=.agg [.int .i64 r.kind,.int .i64 r.unit,.int .i64 r.a,.int .i64 r.b,.sl 2 (r.terms.map ea.D)]
structure wG where
 w:bR
 allow:List Int
 rows:List jr
 deriving Inhabited,DecidableEq
def wG.D (c:wG):D:=.agg [.sl 3 (c.w.us.map cJ.D),.sl 1 (c.allow.map (D.int .i64)),.sl 5 (c.rows.map jr.D)]
def eqBb (a b:Bool):ik (D.bool a).cells (D.bool b).cells=decide (a=b):=by cases a<;>cases b<;>rfl
def sk (f:Nat->Int):Nat->Nat->Int
 |_,0=>0
 |i,k+1=>if f i=0 then sk f (i+1) k else f i
def fZ (f:Nat->Int)(i n:Nat):Int:=sk f i (n-i)
theorem pP {i:Nat}(h:i<n)(hf:f i=0):fZ f i n=fZ f (i+1) n:=by
 unfold fZ;obtain⟨k,hk⟩:∃k,n-i=k+1:=⟨n-i-1,ae⟩
 grind [sk]
def lJ {i:Nat}(h:i<n)(hf:f i≠0):fZ f i n=f i:=by
 unfold fZ;obtain⟨k,hk⟩:∃k,n-i=k+1:=⟨n-i-1,ae⟩
 rw[hk];simp only[sk,hf,aW]
def pO {i:Nat}(h:n<=i):fZ f i n=0:=by
 unfold fZ;rw[show n-i=0 by omega];rfl
def dt (a b:Int):Int:=if a<b then-1 else if b<a then 1 else 0
def pM (a b:au):Int:=if Op.bytesLess a b=true then-1 else if a=b then 0 else 1
def yq (a b:au):Int:=if cU a=true/\cU b=true then dt (C6 a) (C6 b)else if cU a=true then-1 else if cU b=true then 1 else pM a b
def Nk (l m:List au):Nat->Nat->Int
 |_,0=>dt l.length m.length
 |i,k+1=>if yq l[i]! m[i]! ≠0 then yq l[i]! m[i]! else Nk l m (i+1) k
def vy (l m:List au)(i:Nat):Int:=Nk l m i (min l.length m.length-i)
def Gl {l m:List au}{i:Nat}(h:i<l.length/\i<m.length)(hn:yq l[i]! m[i]! ≠0):vy l m i=yq l[i]! m[i]! :=by
 unfold vy;rw[show min l.length m.length-i=(min l.length m.length-(i+1))+1 by omega,Nk,ak hn]
def Nj {l m:List au}{i:Nat}(h:i<l.length/\i<m.length)(hn:yq l[i]! m[i]! =0):vy l m i=vy l m (i+1):=by
 unfold vy;rw[show min l.length m.length-i=(min l.length m.length-(i+1))+1 by omega,Nk,ai (by rw[hn];simp)]
def Gk {l m:List au}{i:Nat}(h:l.length<=i\/m.length<=i):vy l m i=dt l.length m.length:=by
 unfold vy;rw[show min l.length m.length-i=0 by omega,Nk]
def Bb (a b:au):Int:=if a=b then 0 else if a=[]then 1 else if b=[]then-1 else vy (bd a 46) (bd b 46) 0
def iL (a b:ca):Int:=if gQ a=false\/gQ b=false then 0 else
 if dt a.major b.major≠0 then dt a.major b.major else if dt a.minor b.minor≠0 then dt a.minor b.minor else
 if dt a.patch b.patch≠0 then dt a.patch b.patch else Bb a.pre b.pre
def sb (v:ca):ca:=⟨v.major,v.minor,v.patch,v.pre,[]⟩
theorem Tr (a:Int):dt a a=0:=by simp[dt]
theorem yN:dt a b=0↔a=b:=by
 grind [dt]
theorem Fo {a b:ca}(h:sb a=sb b):iL a b=0:=by
 grind [sb,iL,Bb,Tr]
theorem WX (x y z:Int):fZ (λi=>[x,y,z][i]!) 0 [x,y,z].length=if x≠0 then x else if y≠0 then y else z:=by
 grind [fZ,sk]
theorem WZ {x y z:Int}(h:fZ (λi=>[x,y,z][i]!) 0 [x,y,z].length=0):x=0/\y=0/\z=0:=by
 grind [WX]
theorem WY {a b:ca}(hv:¬(gQ a=false\/gQ b=false))(h:¬fZ (λi=>[dt a.major b.major,dt a.minor b.minor,dt a.patch b.patch][i]!) 0 [dt a.major b.major,dt a.minor b.minor,dt a.patch b.patch].length=0):
  fZ (λi=>[dt a.major b.major,dt a.minor b.minor,dt a.patch b.patch][i]!) 0 [dt a.major b.major,dt a.minor b.minor,dt a.patch b.patch].length=iL a b:=by
 grind [WX,iL]
theorem Wn {a b:ca}(hv:¬(gQ a=false\/gQ b=false))(h1:dt a.major b.major=0)(h2:dt a.minor b.minor=0)(h3:dt a.patch b.patch=0):iL a b=Bb a.pre b.pre:=by
 grind [iL]
def acj {a b:ca}(h1:dt a.major b.major=0)(h2:dt a.minor b.minor=0)(h3:dt a.patch b.patch=0)(h4:a.pre=b.pre):sb a=sb b:=by
 unfold sb;rw[yN.1 h1,yN.1 h2,yN.1 h3,h4]
def Ts (a:ca):iL a a=0:=Fo rfl
def L6 (a b:ca):Bool:=gQ a&&gQ b&&decide (iL a b=0)
def FP {v:ca}(h:gQ v=true):L6 v v=true:=by simp[L6,h,Ts]
def Cut.sm (c:Cut):Prop:=c.v.sm
def Span.sm (s:Span):Prop:=s.f.sm/\s.t.sm
def zN (l:List Span):=∀s∈l,s.sm
def cA.sm (s:cA):Prop:=zN s.rel/\zN s.pr
def Want.sm (w:Want):Prop:=w.s.sm
def eA.sm (c:eA):Prop:=c.v.sm/\(∀r∈c.needs,∀w∈r,w.sm)/\∀w∈c.bars,w.sm
def cJ.sm (u:cJ):Prop:=u.cands.length<=16/\∀c∈u.cands,c.sm
variable(us:List cJ)
def bR.sm (w:bR):=∀u∈w.us,u.sm
def zV:ca:=⟨0,0,0,[],[]⟩
def pN (c:Cut):Bool:=if c.e=0 then gQ c.v&&decide (c.v.build=[])else(decide (c.e=-1) ||decide (c.e=1))&&decide (c.v=zV)&& !c.a
def ll (a b:Cut):Int:=if pN a=false\/pN b=false then 0 else if a.e≠0\/b.e≠0 then dt a.e b.e else
 if iL a.v b.v≠0 then iL a.v b.v else if a.a=b.a then 0 else if b.a=true then-1 else 1
def qg (s:Span):Bool:=pN s.f&&pN s.t&&decide (ll s.f s.t<0)
def j5 (c:Cut)(v:ca):Bool:=if pN c=false\/gQ v=false then false else if c.e≠0 then decide (c.e<0)else decide (iL c.v v<0) ||(decide (iL c.v v=0)&& !c.a)
def sv (s:Span)(v:ca):Bool:=qg s&&gQ v&&j5 s.f v&& !j5 s.t v
def Bh (l:List Span)(i:Nat):Bool:=qg l[i]! && !(decide (0<i)&&decide (0<=ll l[i-1]!.t l[i]!.f))
def sS (l:List Span):Bool:=b9 (Bh l) 0 l.length
def oK (f:Nat->Bool)(i n:Nat):Bool:=!b9 (λi=>!f i) i n
def j1 {f:Nat->Bool}{i:Nat}(h:i<n):oK f i n=(f i ||oK f (i+1) n):=by
 unfold oK;rw[aA h];simp
def tj {f:Nat->Bool}{i:Nat}(h:n<=i):oK f i n=false:=by
 unfold oK;rw[bI h];rfl
def wN {f:Nat->Bool}{i:Nat}:oK f i n=true↔∃j,i<=j/\j<n/\f j=true:=by
 unfold oK;rw[cG,<-Bool.not_eq_true,bD];simp
def wh (l:List Span)(v:ca):Bool:=sS l&&oK (λi=>sv l[i]! v) 0 l.length
def vR (v:ca):Bool:=decide (v.major=0)&&decide (v.minor=0)&&decide (v.patch=0)
def mV (c:Cut):Bool:=decide (c.e≠0) ||(!c.a&&decide (c.v.pre=[])&& !vR c.v)
def rK (c:Cut):Bool:=decide (c.e≠0) ||(!c.a&&decide (c.v.pre=[])&& !decide (c.v=zV))
def wj (s:cA):Bool:=sS s.rel&&sS s.pr&&b9 (λi=>mV s.rel[i]!.f&&mV s.rel[i]!.t) 0 s.rel.length
def afF (s:cA):Bool:=b9 (λi=>rK s.rel[i]!.f&&rK s.rel[i]!.t) 0 s.rel.length&&(sS s.rel&&sS s.pr)
def pf (s:cA)(v:ca):Bool:=wj s&&gQ v&&(if v.pre=[]then wh s.rel v else wh s.pr v)
def DT {c:Cut}(h:pN c=true):rK c=mV c:=by
 obtain⟨e,⟨a,b,c,p,q⟩,f⟩:=c;by_cases he:e=0
 .simp only[pN,he,a8,aC,aV]at h;obtain⟨_,rfl⟩:=h;simp only[rK,mV,vR,zV,ca.mk.injEq];by_cases h1:p=[]<;>by_cases h2:a=0<;>by_cases h3:b=0<;>by_cases h4:c=0<;>simp[h1,h2,h3,h4]
 .simp[rK,mV,he]
def ZJ {l:List Span}(h:sS l=true){i:Nat}(hi:i<l.length):pN l[i]!.f=true/\pN l[i]!.t=true:=by
 unfold sS at h;rw[bD]at h;have:=h i ae hi;simp only[Bh,qg,aC]at this;exact⟨this.1.1.1,this.1.1.2⟩
def aef (s:cA):afF s=wj s:=by
 unfold afF wj;cases h:sS s.rel with
 |false=>simp
 |true=>
  have:b9 (λi=>rK s.rel[i]!.f&&rK s.rel[i]!.t) 0 s.rel.length=b9 (λi=>mV s.rel[i]!.f&&mV s.rel[i]!.t) 0 s.rel.length:=by
   rw[Bool.eq_iff_iff,bD,bD];constructor<;>intro g j h1 h2<;>have q:=ZJ h h2<;>have:=g j h1 h2<;>rw[DT q.1,DT q.2]at* <;>exact this
  rw[this];cases sS s.pr<;>simp
def Cl:Cut:=⟨-1,zV,false⟩
def LC:Cut:=⟨1,zV,false⟩
def GU (v:ca):Cut:=⟨0,sb v,false⟩
def abX (v:ca):Cut:=⟨0,sb v,true⟩
def UM (v:ca):ca:=⟨v.major,v.minor,v.patch,[],[]⟩
def QV (v:ca)(p:Int):ca:=if p=0 then⟨v.major+1,0,0,[],[]⟩else if p=1 then⟨v.major,v.minor+1,0,[],[]⟩else⟨v.major,v.minor,v.patch+1,[],[]⟩
def QU (v:ca)(p:Int):ca×Bool:=if gQ v=false\/p<0\/2<p then(zV,false)else if gQ (QV v p)=false then(zV,false)else(QV v p,true)
def RM (v:ca):Nat->ca×Bool
 |0=>(zV,false)
 |n+1=>if(QU v (n:Int)).2=true then((QU v (n:Int)).1,true)else RM v n
def RN (v:ca):ca×Bool:=if gQ v=false then(zV,false)else if v.pre≠[]then(UM v,true)else RM v 3
def NZ (v:ca):Cut:=if vR v=true then Cl else GU (UM v)
def behC (v:ca):Cut:=if(RN (UM v)).2=false then LC else GU (RN (UM v)).1
def RP:cA:=⟨[],[]⟩
def Qd:List Span:=[⟨Cl,LC⟩]
def pH:cA:=⟨Qd,Qd⟩
def dJ (v:ca):cA:=if gQ v=false then RP else if v.pre≠[]then⟨[],[⟨GU v,abX v⟩]⟩else⟨[⟨NZ v,behC v⟩],[]⟩
def RowS (l:List Span):Prop:=zN l/\l.length<=1000
def SetS (s:cA):Prop:=RowS s.rel/\RowS s.pr
def GB:zV.sm:=by simp[zV,ca.sm]
def yT:Cl.sm:=GB
def CP:LC.sm:=GB
def Bu {v:ca}(h:v.sm):(sb v).sm:=⟨h.1,by simp[sb]⟩
def Sf (v:ca):(UM v).sm:=by simp[UM,ca.sm]
def Wc (v:ca)(p:Int):(QV v p).sm:=by unfold QV;split<;>(try split)<;>simp[ca.sm]
def Wb (v:ca)(p:Int):(QU v p).1.sm:=by unfold QU;split<;>(try split)<;>first|exact GB|exact Wc v p
def LZ (v:ca):∀n,(RM v n).1.sm
 |0=>GB
 |n+1=>by
  rw[RM];split
  .exact Wb v _
  .exact LZ v n
def X9 (v:ca):(RN v).1.sm:=by
 unfold RN;repeat' split
 all_goals first|exact GB|exact Sf v|exact LZ v _
def Hy:zN []:=λ_ h=>by cases h
def Tj (v:ca):(NZ v).sm:=by
 unfold NZ;split
 .exact yT
 .exact Bu (Sf v)
def abW (v:ca):(behC v).sm:=by
 unfold behC;split
 .exact CP
 .exact Bu (X9 _)
def Ft {v:ca}(h:v.sm):(dJ v).sm:=by
 unfold dJ;split
 .exact⟨Hy,Hy⟩
 .split
  .exact⟨Hy,λx hx=>by obtain rfl:=aD.1 hx;exact⟨Bu h,Bu h⟩⟩
  .exact⟨λx hx=>by obtain rfl:=aD.1 hx;exact⟨Tj v,abW v⟩,Hy⟩
def abR:pH.sm:=⟨λx hx=>by obtain rfl:=aD.1 hx;exact⟨yT,CP⟩,λx hx=>by obtain rfl:=aD.1 hx;exact⟨yT,CP⟩⟩
structure Key where
 n:au
 f:au
 deriving Inhabited
def Key.D (k:Key):D:=.agg [.str k.n,.str k.f]
def sX (n:Int)(w:Want):Bool:=decide (0<w.u)&&decide (w.u<n)&&wj w.s
def pB (n:Int)(l:List Want):Bool:=b9 (λi=>sX n l[i]!) 0 l.length
def rJ (n:Int)(l:List Want):Bool:=pB n l&&(decide (0<l.length)&&decide (l.length<=24))
def mZ (n:Int)(c:eA):Bool:=decide (c.needs.length<=24)&&decide (c.bars.length<=24)&&b9 (λi=>rJ n c.needs[i]!) 0 c.needs.length&&pB n c.bars
def HF (a b:Key):Int:=if pM a.n b.n≠0 then pM a.n b.n else pM a.f b.f
def jK (a b:cJ):Bool:=Op.bytesLess a.name b.name ||(decide (a.name=b.name)&&Op.bytesLess a.feat b.feat)
def m6 (n:Int)(cs:List eA)(k:Nat):Bool:=gQ cs[k]!.v&&mZ n cs[k]! && !(decide (0<k)&&decide (0<=iL cs[k-1]!.v cs[k]!.v))
def lF (i:Nat):Bool:=!(decide (0<i)&&decide (us[i]!.name=[]))&& !(decide (1<i)&& !jK us[i-1]! us[i]!)&&decide (us[i]!.cands.length<=16)&&b9 (m6 us.length us[i]!.cands) 0 us[i]!.cands.length
def uY:Bool:=decide (us[0]!.name=[])&&decide (us[0]!.feat=[])&&decide (us[0]!.cands.length=1)
def eE (w:bR):Bool:=decide (1<=w.us.length)&&decide (w.us.length<=48)&&uY w.us&&b9 (lF w.us) 0 w.us.length
def sV (i:Nat):Bool:=lF us i&& !(decide (i=0)&& !uY us)
def my (a:au):Op.bytesLess a a=false:=by
 induction a with
 |nil=>rfl
 |cons x r ih=>unfold Op.bytesLess;simp[ih]
def Uh (a b:cJ):decide (0<=HF ⟨a.name,a.feat⟩ ⟨b.name,b.feat⟩)=!jK a b:=by
 unfold HF jK pM;have h:=my b.name;by_cases h1:Op.bytesLess a.name b.name=true<;>by_cases h2:a.name=b.name<;>by_cases h3:Op.bytesLess a.feat b.feat=true<;>by_cases h4:a.feat=b.feat<;>simp_all
def Eg (w:bR):eE w=(decide (1<=w.us.length)&&decide (w.us.length<=48)&&b9 (sV w.us) 0 w.us.length):=by
 unfold eE;by_cases h:1<=w.us.length
 .have:b9 (sV w.us) 0 w.us.length=(uY w.us&&b9 (lF w.us) 0 w.us.length):=by
   rw[Bool.eq_iff_iff,aC,bD,bD];simp only[sV,aC,cG,er,cy];constructor
   .intro g;have h0:=(g 0 ae ae).2;exact⟨by rcases h0 with h0|h0;exact absurd rfl h0;simpa using h0,λj h1 h2=>(g j h1 h2).1⟩
   .rintro⟨g1,g2⟩ j h1 h2;exact⟨g2 j h1 h2,.inr (by simpa using g1)⟩
  rw[this];simp only[Bool.and_assoc]
 .simp[h]
def iCut (a b:Cut):Cut.D a=Cut.D b↔a=b:=by
 obtain⟨e,⟨v1,v2,v3,v4,v5⟩,x⟩:=a;obtain⟨e',⟨w1,w2,w3,w4,w5⟩,x'⟩:=b;simp[Cut.D,and_assoc]
def afi (a b:List Cut):a.map Cut.D=b.map Cut.D↔a=b:=kU iCut a b
def Xn (a b:Span):Span.D a=Span.D b↔a=b:=by
 obtain⟨⟨e,⟨v1,v2,v3,v4,v5⟩,x⟩,⟨f,⟨u1,u2,u3,u4,u5⟩,y⟩⟩:=a;obtain⟨⟨e',⟨w1,w2,w3,w4,w5⟩,x'⟩,⟨f',⟨t1,t2,t3,t4,t5⟩,y'⟩⟩:=b;simp[Span.D,and_assoc]
def CH (a b:List Span):a.map Span.D=b.map Span.D↔a=b:=kU Xn a b
def iSet (a b:cA):cA.D a=cA.D b↔a=b:=by cases a;cases b;simp[cA.D,CH]
def Xq (a b:Want):Want.D a=Want.D b↔a=b:=by
 obtain⟨u,⟨x,y⟩⟩:=a;obtain⟨u',⟨x',y'⟩⟩:=b;simp[Want.D,CH]
def Ha (a b:List Want):a.map Want.D=b.map Want.D↔a=b:=kU Xq a b
def Xs (a b:nX):jI a=jI b↔a=b:=by simp[jI,Ha]
def Ox (a b:List nX):a.map jI=b.map jI↔a=b:=kU Xs a b
def iCnd (a b:eA):eA.D a=eA.D b↔a=b:=by
 obtain⟨⟨v1,v2,v3,v4,v5⟩,s,x,y⟩:=a;obtain⟨⟨w1,w2,w3,w4,w5⟩,s',x',y'⟩:=b;simp[eA.D,Ox,Ha,and_assoc]
def Xe (a b:List eA):a.map eA.D=b.map eA.D↔a=b:=kU iCnd a b
def iUnt (a b:cJ):cJ.D a=cJ.D b↔a=b:=by cases a;cases b;simp[cJ.D,Xe]
def Xp (a b:List cJ):a.map cJ.D=b.map cJ.D↔a=b:=kU iUnt a b
def iWld (a b:bR):bR.D a=bR.D b↔a=b:=by cases a;cases b;simp[bR.D,Xp]
def iTrm (a b:ea):ea.D a=ea.D b↔a=b:=by cases a;cases b;simp[ea.D]
def afn (a b:List ea):a.map ea.D=b.map ea.D↔a=b:=kU iTrm a b
def iKey (a b:Key):Key.D a=Key.D b↔a=b:=by cases a;cases b;simp[Key.D]
def iGs (a b:Gs):Gs.D a=Gs.D b↔a=b:=by cases a;cases b;simp[Gs.D,TM]
structure di where
 name:au
 range:au
 feats:List au
 bare:Bool
 deriving Inhabited,DecidableEq
def di.D (x:di):D:=.agg [.str x.name,.str x.range,.sl 1 (x.feats.map D.str),.bool x.bare]
structure bw where
 any:List di
 when':au
 option:au
 deriving Inhabited,DecidableEq
def bw.D (x:bw):D:=.agg [.sl 4 (x.any.map di.D),.str x.when',.str x.option]
structure mM where
 name:au
 range:au
 when':au
 deriving Inhabited,DecidableEq
def mM.D (x:mM):D:=.agg [.str x.name,.str x.range,.str x.when']
structure cn where
 name:au
 of:List au
 deriving Inhabited,DecidableEq
def cn.D (x:cn):D:=.agg [.str x.name,.sl 1 (x.of.map D.str)]
structure Rec where
 name:au
 v:ca
 needs:List bw
 bars:List mM
 feats:List cn
 deriving Inhabited,DecidableEq
def Rec.D (x:Rec):D:=.agg [.str x.name,.int .i64 x.v.major,.int .i64 x.v.minor,.int .i64 x.v.patch,.str x.v.pre,.str x.v.build,.sl 3 (x.needs.map bw.D),.sl 3 (x.bars.map mM.D),.sl 2 (x.feats.map cn.D)]
structure Cmp where
 op:Int
 parts:Int
 v:ca
 deriving Inhabited,DecidableEq
def Cmp.D (x:Cmp):D:=.agg [.int .i64 x.op,.int .i64 x.parts,.int .i64 x.v.major,.int .i64 x.v.minor,.int .i64 x.v.patch,.str x.v.pre,.str x.v.build]
structure Nd where
 op:Int
 a:Int
 b:Int
 key:Int
 text:au
 deriving Inhabited,DecidableEq
def Nd.D (x:Nd):D:=.agg [.int .i64 x.op,.int .i64 x.a,.int .i64 x.b,.int .i64 x.key,.str x.text]
theorem mM.eq (a b:mM):ik (mM.D a).cells (mM.D b).cells=decide (a=b):=by
 obtain⟨a1,a2,a3⟩:=a;obtain⟨b1,b2,b3⟩:=b
 grind [mM.D,D.cells,ik,tn]
theorem di.same {a b:di}(e1:a.name=b.name)(e2:a.range=b.range)(e3:a.bare=b.bare):decide (a=b)=decide (a.feats=b.feats):=by
 obtain⟨a1,a2,a3,a4⟩:=a;obtain⟨b1,b2,b3,b4⟩:=b
 grind
def rising:Bool:=b9 (λi=>Op.bytesLess l[i-1]! l[i]!) 1 l.length
def bP (s:au):Int×au×au:=
 if gT s=true then(1,s,[])
 else if s.length>0/\at8 s 0=63/\gT (s.drop 1)=true then(2,s.drop 1,[])
 else if(bd s 47).length=2/\dn (bd s 47)[0]! =true/\gT (bd s 47)[1]! =true then(3,(bd s 47)[0]!,(bd s 47)[1]!)
 else(0,[],[])
def findF (l:List cn)(nm:au)(i:Nat):Int:=match(l.drop i).findIdx? (λx=>decide (x.name=nm))with
 |some k=>((i+k:Nat):Int)
 |none=>-1
theorem WU {l:List cn}{i:Nat}(h:i<l.length)(he:l[i]!.name=nm):findF l nm i=(i:Nat):=by
 unfold findF;rw[fk h,List.findIdx?_cons]
 grind
theorem WV {l:List cn}{i:Nat}(h:i<l.length)(he:¬l[i]!.name=nm):findF l nm i=findF l nm (i+1):=by
 unfold findF;have:¬l[i].name=nm:=by simpa[h]using he
 rw[fk h,List.findIdx?_cons]
 grind
def Ty {l:List cn}{i:Nat}(h:l.length<=i):findF l nm i=-1:=by
 unfold findF;rw[ki h];rfl
def lv:au:=[100,101,102,97,117,108,116]
def isF (l:List cn)(nm:au):Bool:=decide (nm=lv) ||decide (0<=findF l nm 0)
def ai9 (l:List cn)(s:au):Bool:=!(decide ((bP s).1=0) ||(decide ((bP s).1=1)&& !isF l (bP s).2.1))
def Xx (l:List cn)(of:List au):Bool:=decide (of.length<=6)&&rising of&&b9 (λi=>ai9 l of[i]!) 0 of.length
def WM (l:List cn)(i:Nat):Bool:=gT l[i]!.name&& !(decide (0<i)&& !Op.bytesLess l[i-1]!.name l[i]!.name)&&Xx l l[i]!.of
def ek (l:List cn):Bool:=decide (l.length<=8)&&b9 (WM l) 0 l.length
def cn.sm (x:cn):Prop:=x.name.length<=1048576/\x.of.length<=1048576/\∀t∈x.of,t.length<=1048576
def ofL:List (List au):=[[],[[63,111]],[[97,110,116,47,102]],[[98,101,101,47,102]],[[99,111,119,47,102]],[[100,111,103,47,102]],[[63,111],[97,110,116,47,102]],[[63,111],[98,101,101,47,102]],[[63,111],[99,111,119,47,102]],[[63,111],[100,111,103,47,102]]]
def Ce:List (List cn):=[]::ofL.map λo=>[⟨[102],o⟩]
def ju (l:List cn):Prop:=l∈Ce
theorem FB (b:au):∀(l:List au) (i:Nat),(cw b (l.take i)).length<=(cw b l).length
 |[],i=>aB
 |[t],0=>by simp[cw]
 |[t],i+1=>aB
 |t::u::r,0=>by simp[cw]
 |t::u::r,1=>by simp[cw]
 |t::u::r,i+2=>by
  have:=FB b (u::r) (i+1)
  grind [cw]
theorem CM (b t:au):∀(l:List au),l≠[]->cw b (l++[t])=cw b l++b++t
 |[],h=>absurd rfl h
 |[u],_=>by simp[cw]
 |u::v::r,_=>by
  have:=CM b t (v::r) aB
  grind [cw]
theorem CN (b:au)(l:List au)(i:Nat)(h:i<l.length):cw b (l.take (i+1))=(if 0<i then cw b (l.take i)++b else [])++l[i]! :=by
 have e:l.take (i+1)=l.take i++[l[i]!]:=by
  rw[List.take_add_one,List.getElem?_eq_getElem h];simp[h]
 rw[e];by_cases h0:0<i
 .rw[ak h0,CM _ _ _ (by intro hn;have:=aw List.length hn;simp only[dQ,b8]at this;omega)]
 grind [cw]
def jm:au->au->List au
 |[],cur=>[cur]
 |[c],cur=>[cur++[c]]
 |c::d::r,cur=>if c=124/\d=124 then cur::jm r []else jm (d::r) (cur++[c])
def zQ:au->au
 |[]=>[]
 |c::r=>if c=32 then zQ r else c::r
def B6 (s:au):au:=(zQ (zQ s).reverse).reverse
def kf:List au:=[[42],[94,49,46,48,46,48],[61,49,46,50,46,48],[62,61,49,46,50,46,48],[60,50,46,48,46,48],[94,50,46,48,46,48,45,97,46,49],[61,49,46,48,46,48,32,124,124,32,61,50,46,48,46,48],[33,61,49,46,50,46,48]]
def LV:List au:=[[],[111,115,32,61,32,108,105,110,117,120],[111,115,32,33,61,32,108,105,110,117,120]]
def TR:List au:=[[63,111],[97,110,116,47,102],[98,101,101,47,102],[99,111,119,47,102],[100,111,103,47,102]]
def qV (s:au):Bool:=kf.contains s
def xy (s:au):Bool:=LV.contains s
def kA (s:au):Prop:=s∈kf
def oW (s:au):Prop:=s∈LV
def rC (s:au):Prop:=s∈TR
def kA.len {s:au}(h:kA s):s.length<=1048576:=by
 have:∀s∈kf,s.length<=1048576:=aU
 exact this s h
def oW.len {s:au}(h:oW s):s.length<=1048576:=by
 have:∀s∈LV,s.length<=1048576:=aU
 exact this s h
def rC.len {s:au}(h:rC s):s.length<=1048576:=by
 have:∀s∈TR,s.length<=1048576:=aU
 exact this s h
theorem ju.sm {l:List cn}(h:ju l):∀x∈l,x.sm:=by
 have:∀l∈Ce,∀x∈l,x.name.length<=1048576/\x.of.length<=1048576/\∀t∈x.of,t.length<=1048576:=aU
 exact this l h
def ju.it {l:List cn}(h:ju l):∀x∈l,∀s∈x.of,rC s:=by
 have:∀l∈Ce,∀x∈l,∀s∈x.of,s∈TR:=aU
 exact this l h
def qI (f:Nat->Int):Nat->Nat->Int×Int
 |_,0=>(0,0)
 |i,k+1=>if f i=0 then qI f (i+1) k else(f i,((i:Nat):Int))
def gX (f:Nat->Int)(i n:Nat):Int×Int:=qI f i (n-i)
theorem kq {i:Nat}(h:i<n)(hf:f i=0):gX f i n=gX f (i+1) n:=by
 unfold gX;obtain⟨k,hk⟩:∃k,n-i=k+1:=⟨n-i-1,ae⟩
 grind [qI]
def gY {i:Nat}(h:i<n)(hf:f i≠0):gX f i n=(f i,((i:Nat):Int)):=by
 unfold gX;obtain⟨k,hk⟩:∃k,n-i=k+1:=⟨n-i-1,ae⟩
 rw[hk];simp only[qI,hf,aW]
def ko {i:Nat}(h:n<=i):gX f i n=(0,0):=by
 unfold gX;rw[show n-i=0 by omega];rfl
def gR (r:Rec)(name rng:au):Int:=if dn name=false then 4 else if name=r.name then 8 else if qV rng=false then 6 else 0
def wfB (i:Nat):Bool:=gT l[i]! && !(decide (0<i)&& !Op.bytesLess l[i-1]! l[i]!)
def nK (alone:Bool):Bool:=(decide (l.length<=6)&&(alone ||decide (l.length=0)))&&b9 (wfB l) 0 l.length
def lG (r:Rec)(w:di)(alone:Bool):Int:=if gR r w.name w.range≠0 then gR r w.name w.range else if nK w.feats alone=false then 11 else 0
def nL (r:Rec)(l:List di):Int:=fZ (λi=>lG r l[i]! (decide ((l.length:Int)=1))) 0 l.length
def jF (r:Rec)(n:bw):Int:=if n.any.length=0 then 9 else if 3<n.any.length then 3 else if nL r n.any≠0 then nL r n.any else
 if xy n.when'=false then 7 else if n.option≠[]/\gT n.option=false then 14 else 0
def rY (r:Rec)(b:mM):Int:=if gR r b.name b.range≠0 then gR r b.name b.range else if xy b.when'=false then 7 else 0
def Yr (l:List bw)(x:au):Bool:=l.any λn=>decide (n.option=x)
def Mj (l:List bw)(x:au):Bool:=l.any λn=>decide (n.any.length=1)&&decide (n.any[0]!.name=x)
def oe (r:Rec)(s:au):Int:=if(bP s).1=2/\Yr r.needs (bP s).2.1=false then 14 else if(bP s).1=3/\Mj r.needs (bP s).2.1=false then 16 else 0
def mQ (r:Rec)(of:List au):Int:=fZ (λi=>oe r of[i]!) 0 of.length
def lL (r:Rec):Int×Int:=gX (λi=>jF r r.needs[i]!) 0 r.needs.length
def uU (r:Rec):Int×Int:=gX (λi=>rY r r.bars[i]!) 0 r.bars.length
def G3 (r:Rec):Int×Int:=gX (λi=>mQ r r.feats[i]!.of) 0 r.feats.length
def eo (r:Rec):Int×Int:=if(lL r).1≠0 then lL r else if(uU r).1≠0 then uU r else if ek r.feats=false then(11,0)else G3 r
theorem aak (n:Nat)(al:Bool):(decide ((6:Int)<(n:Nat)) ||(decide ((0:Int)<(n:Nat))&& !al))=!(decide (n<=6)&&(al ||decide (n=0))):=by
 grind
theorem wf_c (i:Nat):(!gT l[i]! ||(decide ((0:Int)<(i:Nat))&& !Op.bytesLess l[i-1]! l[i]!))=!wfB l i:=by
 unfold wfB
 grind
theorem wf_2 (al:Bool):(b9 (λi=>gT l[i]!) 0 l.length&&((decide (l.length<=6)&&rising l)&&(al ||decide (l.length=0))))=nK l al:=by
 grind [b9,wfB,gT,rising,bD,nK]
def itC (k:Int)(x:au)(n:bw):Bool:=(decide (k=2)&&decide (n.option=x)) ||((decide (k=3)&&decide ((n.any.length:Int)=1))&&decide (n.any[0]!.name=x))
def itE (k:Int):Int:=if k=2 then 14 else if k=3 then 16 else 0
theorem Xw (r:Rec)(s:au):oe r s=if r.needs.any (itC (bP s).1 (bP s).2.1)=true then 0 else itE (bP s).1:=by
 grind [oe,itE,Yr,Mj,bP,itC]
theorem wP [Inhabited α]{c:α->Bool}{l:List α}{i:Nat}(h:i<l.length)(hc:c l[i]! =true):(l.drop i).any c=true:=by
 rw[fk h,List.any_cons]
 grind
theorem B2 [Inhabited α]{c:α->Bool}{l:List α}{i:Nat}(h:i<l.length)(hc:c l[i]! =false):(l.drop i).any c=(l.drop (i+1)).any c:=by
 rw[fk h,List.any_cons]
 grind
def wO {c:α->Bool}{l:List α}{i:Nat}(h:l.length<=i):(l.drop i).any c=false:=by
 rw[ki h];rfl
def Gr:au:=[110,101,101,100]
def rU:au:=[97,110,121]
def yu:au:=[119,104,101,110]
def nJ:au:=[111,112,116,105,111,110]
def zz:au:=[98,97,114]
def jZ:au:=[102,101,97,116,117,114,101]
def qj:au:=[112,97,99,107,97,103,101]
def rQ:au:=[102,117,108,108]
def rO:au:=[98,97,114,101]
def cx:au:=cw [32] l++[10]
def sY (w:di):List au:=[rU,w.name,if w.feats.length=0 then [45]else cw [44] w.feats,if w.bare=true then rO else rQ,w.range]
def kC (s:au):au:=if s=[]then []else cx [yu,s]
def xO (s:au):au:=if s=[]then []else cx [nJ,s]
def Ai (n:bw):au:=cx [Gr]++(n.any.map λw=>cx (sY w)).flatten++kC n.when'++xO n.option
def GR (b:mM):au:=cx [zz,b.name,b.range]++kC b.when'
def xe (f:cn):au:=cx ([jZ,f.name]++f.of)
def uZ (r:Rec):au:=cx [qj,r.name,uO r.v]
def D7 (r:Rec):au:=uZ r++(r.needs.map Ai).flatten++(r.bars.map GR).flatten++(r.feats.map xe).flatten
def dc (r:Rec):Int×Int:=if dn r.name=false then(4,0)else if gQ r.v=false then(5,0)else if 8<r.needs.length\/8<r.bars.length then(3,0)else
 if(eo r).1≠0 then eo r else if 4096<(D7 r).length then(3,0)else(0,0)
def fD (r:Rec):au×Int:=if(dc r).1≠0 then([],(dc r).1)else(D7 r,0)
def di.sm (w:di):Prop:=(w.name.length<=1048576/\kA w.range)/\∀t∈w.feats,t.length<=1048576
def bw.sm (n:bw):Prop:=(∀w∈n.any,w.sm)/\oW n.when'/\n.option.length<=1048576
def mM.sm (b:mM):Prop:=b.name.length<=1048576/\kA b.range/\oW b.when'
def ir (r:Rec):Prop:=(r.name.length<=1048576/\r.v.sm)/\(∀n∈r.needs,n.sm)/\(∀b∈r.bars,b.sm)/\ju r.feats
theorem Mc {r:Rec}{e:Int×Int}(h:lL r=e)(hn:e.1≠0):eo r=e:=by grind [eo]
theorem Db {r:Rec}{e:Int×Int}(h0:lL r=(0,0))(h:uU r=e)(hn:e.1≠0):eo r=e:=by grind [eo]
theorem Md {r:Rec}(h0:lL r=(0,0))(h1:uU r=(0,0))(h:ek r.feats=false):eo r=(11,0):=by grind [eo]
theorem xR {r:Rec}{e:Int×Int}(h0:lL r=(0,0))(h1:uU r=(0,0))(h:ek r.feats=true)(h2:G3 r=e):eo r=e:=by grind [eo]
def Cr (f:Nat->Int):∀(k i:Nat),(qI f i k).1=0->qI f i k=(0,0)
 |0,_,_=>rfl
 |k+1,i,h=>by
  simp only[qI]at h⊢;by_cases hf:f i=0
  .rw[ak hf]at h⊢;exact Cr f k (i+1) h
  .rw[ai hf]at h;exact absurd h hf
def Me {r:Rec}(h:(eo r).1=0):eo r=(0,0):=by
 unfold eo at h⊢;split
 .rename_i h1;rw[ak h1]at h;exact absurd h h1
 .rename_i h1;rw[ai h1]at h;split
  .rename_i h2;rw[ak h2]at h;exact absurd h h2
  .rename_i h2;rw[ai h2]at h;split
   .rename_i h3;rw[ak h3]at h;cases h
   .rename_i h3;rw[ai h3]at h;exact Cr _ _ _ h
theorem pL {r:Rec}{e:Int×Int}(h0:dn r.name=true)(h1:gQ r.v=true)(h2:¬8<r.needs.length)(h3:¬8<r.bars.length)(hp:eo r=e)(hn:e.1≠0):dc r=e:=by
 grind [dc]
theorem wX {r:Rec}(h0:dn r.name=true)(h1:gQ r.v=true)(h2:¬8<r.needs.length)(h3:¬8<r.bars.length)(hp:eo r=(0,0)):dc r=if 4096<(D7 r).length then(3,0)else(0,0):=by
 grind [dc]
def Fy (r:Rec):Prop:=(dn r.name=true/\gQ r.v=true)/\(r.needs.length<=8/\r.bars.length<=8)/\eo r=(0,0)
def Co {f:Nat->Int}:∀{k i:Nat},sk f i k=0->∀j,i<=j->j<i+k->f j=0
 |0,i,_,j,h1,h2=>absurd h2 ae
 |k+1,i,h,j,h1,h2=>by
  simp only[sk]at h;by_cases hf:f i=0
  .rw[ak hf]at h;by_cases hj:j=i
   .rw[hj];exact hf
   .exact Co h j ae ae
  .rw[ai hf]at h;exact absurd h hf
def Cm (h:fZ f 0 n=0)(j:Nat)(hj:j<n):f j=0:=Co h j ae ae
def Cq {f:Nat->Int}:∀{k i:Nat},(qI f i k).1=0->∀j,i<=j->j<i+k->f j=0
 |0,i,_,j,h1,h2=>absurd h2 ae
 |k+1,i,h,j,h1,h2=>by
  simp only[qI]at h;by_cases hf:f i=0
  .rw[ak hf]at h;by_cases hj:j=i
   .rw[hj];exact hf
   .exact Cq h j ae ae
  .rw[ai hf]at h;exact absurd h hf
def qH (h:(gX f 0 n).1=0)(j:Nat)(hj:j<n):f j=0:=Cq h j ae ae
def di.fit (w:di):Prop:=w.sm/\(w.feats.length<=6/\∀t∈w.feats,t.length<=12)
def bw.fit (n:bw):Prop:=(n.any.length<=3/\∀w∈n.any,w.fit)/\n.when'.length<=1048576/\n.option.length<=1048576
def cn.fit (x:cn):Prop:=x.sm/\x.of.length<=6
structure Rec.fit (r:Rec):Prop where
 nm:r.name.length<=1048576
 v:r.v.sm
 ns:r.needs.length<=8
 n:∀x∈r.needs,x.fit
 bs:r.bars.length<=8
 b:∀x∈r.bars,x.sm
 fs:r.feats.length<=8
 f:∀x∈r.feats,x.fit
variable{r:Rec}
theorem gu [Inhabited α]{l:List α}{x:α}(h:x∈l):∃i,i<l.length/\l[i]! =x:=by
 obtain⟨i,hi,e⟩:=List.mem_iff_getElem.1 h;exact⟨i,hi,by rw[<-e];simp[hi]⟩
theorem aal {w:di}{al:Bool}(h:lG r w al=0)(hs:w.sm):w.fit:=by
 refine⟨hs, ?_⟩
 grind [lG,nK,bD,gu,wfB,gT]
def X6 {n:bw}(h:jF r n=0)(hs:n.sm):n.fit:=by
 unfold jF at h;split at h
 .cases h
 split at h
 .cases h
 rename_i h1 h2;split at h
 .rename_i h3;exact absurd h h3
 rename_i h3;refine⟨⟨ae,λw hw=>?_⟩,hs.2.1.len,hs.2.2⟩;obtain⟨i,hi,rfl⟩:=gu hw;exact aal (Cm (Classical.not_not.1 h3) i hi) (hs.1 _ hw)
theorem tu (h:Fy r/\ir r):r.fit:=by
 obtain⟨⟨_,⟨h1,h2⟩,hp⟩,⟨s1,s2⟩,s3,s4,s5⟩:=h;have h0:(lL r).1=0/\ek r.feats=true:=by
  grind [eo]
 obtain⟨h3,h4⟩:=h0;simp only[ek,aC,aV,bD]at h4;refine⟨s1,s2,h1,λx hx=>?_,h2,s4,h4.1,λx hx=>⟨s5.sm x hx, ?_⟩⟩
 .obtain⟨i,hi,rfl⟩:=gu hx;exact X6 (qH h3 i hi) (s3 _ hx)
 grind [gu,WM,Xx]
def pU (x:UInt8)(B:Nat):∀l:List au,(∀t∈l,t.length<=B)->(cw [x] l).length<=l.length*(B+1)
 |[],_=>by simp[cw]
 |[t],h=>by have:=h t (.head _);simp only[cw,bE,b8];omega
 |t::u::r,h=>by
  have h1:=h t (.head _);have h2:=pU x B (u::r) λy hy=>h y (.tail _ hy)
  simp only[cw,cu,bE,b8,Nat.succ_mul]at h2⊢;omega
def Ef {w:di}(h:w.fit):(cw [44] w.feats).length<=6291462:=by
 have h1:=pU 44 1048576 w.feats h.1.2;have h2:=fQ (1048576+1) h.2.1;omega
def Iz {w:di}(h:w.fit):(cw [44] w.feats).length<=78:=by
 have h1:=pU 44 12 w.feats h.2.2;have h2:=fQ (12+1) h.2.1;omega
def j0 (w:di):au:=cx (sY w)
theorem zA {w:di}(h:w.fit):(j0 w).length<=8400000:=by
 have h1:=Ef h;have h2:=And.intro h.1.1.1 h.1.1.2.len;simp only[j0,cx,sY,cw,cu,bE,b8]
 grind [rU,rO,rQ]
def nV {s:au}(h:s.length<=1048576):(kC s).length<=1048590:=by
 unfold kC;split
 .simp
 .simp only[cx,cw,yu,cu,bE,b8];omega
def Yv {s:au}(h:s.length<=1048576):(xO s).length<=1048590:=by
 unfold xO;split
 .simp
 .simp only[cx,cw,nJ,cu,bE,b8];omega
def xh (q:α->au)(B:Nat){l:List α}(h:∀x∈l,(q x).length<=B)(i:Nat):(((l.take i).map q).flatten).length<=i*B:=by
 have h1:=su q B (l.take i) λx hx=>h x (zH hx)
 have h2:=fQ B (List.length_take_le i l);omega
theorem tp [Inhabited α](q:α->au){l:List α}{i:Nat}(h:i<l.length):((l.take (i+1)).map q).flatten=((l.take i).map q).flatten++q l[i]! :=by
 rw[List.take_add_one,List.getElem?_eq_getElem h,List.map_append,List.flatten_append];simp[h]
theorem T6 {n:bw}(h:n.fit):(Ai n).length<=27400000:=by
 have h1:=su j0 8400000 n.any λw hw=>zA (h.1.2 w hw)
 have h2:=fQ 8400000 h.1.1;have h3:=nV h.2.1;have h4:=Yv h.2.2;have h5:(cx [Gr]).length=5:=rfl;unfold j0 at h1
 grind [Ai]
def V4 {b:mM}(h:b.sm):(GR b).length<=3145800:=by
 have h1:=nV h.2.2.len;have h2:=h.1;have h3:=h.2.1.len;simp only[GR,cx,cw,zz,cu,bE,b8];omega
theorem Fu {x:cn}(h:x.fit):(xe x).length<=8400000:=by
 have h1:=pU 32 1048576 ([jZ,x.name]++x.of) (by
  intro t ht;simp only[td,rl,bL]at ht;rcases ht with rfl|rfl|ht
  .simp[jZ]
  .exact h.1.1
  .exact h.1.2.2 _ ht)
 have h2:=h.2
 grind [jZ,xe,cx]
def TL (h1:r.name.length<=1048576)(h2:r.v.sm):(uZ r).length<=3145800:=by
 have h3:=Ed r.v h2;simp only[uZ,cx,cw,qj,cu,bE,b8];omega
def dS (n:bw)(j:Nat):au:=cx [Gr]++((n.any.take j).map j0).flatten
theorem ov {n:bw}(h:j<n.any.length):dS n (j+1)=dS n j++j0 n.any[j]! :=by grind [dS,tp,j0]
def y8 {n:bw}(h:n.any.length<=j):Ai n=dS n j++kC n.when'++xO n.option:=by
 rw[dS,fj h];rfl
theorem FJ {n:bw}(h:n.fit)(j:Nat)(hj:j<=3):(dS n j).length<=25200005:=by
 have h1:=xh j0 8400000 (λw hw=>zA (h.1.2 w hw)) j;have h2:=fQ 8400000 hj;have h5:(cx [Gr]).length=5:=rfl
 grind [dS]
def kH (r:Rec)(i:Nat):au:=uZ r++((r.needs.take i).map Ai).flatten
def D9 (r:Rec)(i:Nat):au:=kH r r.needs.length++((r.bars.take i).map GR).flatten
def Gp (r:Rec)(i:Nat):au:=D9 r r.bars.length++((r.feats.take i).map xe).flatten
def Z4 (r:Rec):kH r 0=uZ r:=by simp[kH]
def Z5 (r:Rec):D9 r 0=kH r r.needs.length:=by simp[D9]
def Z6 (r:Rec):Gp r 0=D9 r r.bars.length:=by simp[Gp]
theorem Iu (r:Rec):Gp r r.feats.length=D7 r:=by grind [Gp,D9,kH,D7]
theorem mI {i:Nat}(h:i<r.needs.length):kH r (i+1)=kH r i++Ai r.needs[i]! :=by grind [kH,tp,Ai]
theorem Ns {i:Nat}(h:i<r.bars.length):D9 r (i+1)=D9 r i++GR r.bars[i]! :=by grind [D9,tp,GR]
theorem Nt {i:Nat}(h:i<r.feats.length):Gp r (i+1)=Gp r i++xe r.feats[i]! :=by grind [Gp,tp,xe]
def Is (h:r.fit)(i:Nat)(hi:i<=r.needs.length):(kH r i).length<=222400000:=by
 have a0:=TL h.nm h.v;have a1:=xh Ai 27400000 (λx hx=>T6 (h.n x hx)) i;have b1:=fQ 27400000 (eR hi h.ns);simp only[kH,cu];omega
def It (h:r.fit)(i:Nat)(hi:i<=r.bars.length):(D9 r i).length<=247600000:=by
 have a0:=Is h r.needs.length (aN _);have a1:=xh GR 3145800 (λx hx=>V4 (h.b x hx)) i;have b1:=fQ 3145800 (eR hi h.bs);simp only[D9,cu];omega
def SB (h:r.fit)(i:Nat)(hi:i<=r.feats.length):(Gp r i).length<=314800000:=by
 have a0:=It h r.bars.length (aN _);have a1:=xh xe 8400000 (λx hx=>Fu (h.f x hx)) i;have b1:=fQ 8400000 (eR hi h.fs);simp only[Gp,cu];omega
theorem mf (h:(dc r).1=0):Fy r:=by
 unfold dc at h;split at h
 .cases h
 split at h
 .cases h
 split at h
 .cases h
 rename_i a b c;split at h
 .rename_i d;exact absurd h d
 rename_i d;exact⟨⟨by simpa using a,by simpa using b⟩,⟨ae,ae⟩,Me (Classical.not_not.1 d)⟩
def wv (r:Rec):Int:=if(fD r).2≠0 then 0 else sumL (fD r).1
def uR (m:List (Nat×bn))(l:Nat)(t:List UInt8):Prop:=(∃u,look m l=some (.bld none 0 u)/\t=[])\/(∃l2 u,look m l=some (.bld (some l2) t.length u)/\look m l2=some (.row t))
@[go_sem] def gC (m:List (Nat×bn))(l:Nat):List (Nat×bn):=match look m l with
 |some (.bld (some l2) _ _)=>cT m l2
 |_=>m
@[go_sem] def r7 (m:List (Nat×bn))(l L:Nat)(t:List UInt8):List (Nat×bn):=(L,.row t)::cX (gC m l) l (.bld (some L) t.length true)
def TrW (aE8:D)(s:List UInt8)(ds:List D)(st:St)(K:D->St->Prop):=∃l t,ds=[.ptr l 2 0 0,aE8]/\uR st.m l t/\l<st.nx/\s≠[]/\t.length+s.length<=1099511627776/\K .any ⟨st.nx+1,r7 st.m l st.nx (t++s)⟩
def trWS (ds:List D)(st:St)(K:D->St->Prop):=∃s,TrW (.str s) s ds st K
def trWB (ds:List D)(st:St)(K:D->St->Prop):=∃c,TrW (.int .u8 c.toNat) [c] ds st K
def trBS (ds:List D)(st:St)(K:D->St->Prop):=∃l t,ds=[.ptr l 2 0 0]/\uR st.m l t/\t≠[]/\K (.str t) ⟨st.nx,cT (gC st.m l) l⟩
def C489:=∀(ds:List D) (st:St) (K:D->St->Prop),trWS ds st K->Z.tr 489 ds st K
def C664:=∀(ds:List D) (st:St) (K:D->St->Prop),trWB ds st K->Z.tr 664 ds st K
def C452:=∀(ds:List D) (st:St) (K:D->St->Prop),trBS ds st K->Z.tr 452 ds st K
def TS (b a:au)(l:List au)(h:a≠[]):cw b (a::l)≠[]:=by
 match l with
 |[]=>exact h
 |c::r=>
  rw[vP b a (c::r) aB];intro e;have:=List.append_eq_nil_iff.1 e;exact h (List.append_eq_nil_iff.1 this.1).1
def GK (ws:List au)(t:au):Prop:=(cw [32] ws≠[]/\ws.length<=1048600)/\(∀w∈ws,w.length<=2097200)/\t.length+(cw [32] ws).length+1<=1099511627776
def GK.mk {a:au}{l:List au}{t:au}(h1:a≠[])(h2:l.length<=99)(h3:∀w∈a::l,w.length<=2097200)(h4:t.length<=1000000000):GK (a::l) t:=by
 have h5:=pU 32 2097200 (a::l) h3;have h6:(a::l).length<=100:=by simp only[bE];omega
 have h7:=fQ (2097200+1) h6;exact⟨⟨TS _ _ _ h1,ae⟩,h3,ae⟩
def C450 (Y:Ctx):=∀(ws:List au) (t:au) (l lw nx:Nat) (m:List (Nat×bn)) (K:D->St->Prop),uR m l t->look m lw=some (.buf 1 (ws.map D.str))->l<nx->lw<nx->GK ws t->
 K (.tup []) ⟨nx+1,r7 (cT m lw) l nx (t++cx ws)⟩->Y.tr 450 [.ptr l 2 0 0,.own lw 1 0 ws.length] ⟨nx,m⟩ K
def y1 {m:List (Nat×bn)}{l L:Nat}{t:List UInt8}(h:l≠L):look (r7 m l L t) l=some (.bld (some L) t.length true)/\look (r7 m l L t) L=some (.row t):=by
 constructor
 .simp only[r7,look,ai (λe=>h (Eq.symm e))]
  haveI:cP:={gd:=λ_=>True,le:=λ_ _ _ _ _=>trivial}
  rw[bS,ak rfl]
 .simp only[r7,look,ak]
def abZ {m:List (Nat×bn)}{l L:Nat}{t:List UInt8}(h:l≠L):uR (r7 m l L t) l t:=.inr ⟨L,true,y1 h⟩
structure kj where
 r:Rec
 sum:Int
 off:Bool
 deriving Inhabited,DecidableEq
def kj.D (x:kj):D:=.agg [.str x.r.name,.int .i64 x.r.v.major,.int .i64 x.r.v.minor,.int .i64 x.r.v.patch,.str x.r.v.pre,.str x.r.v.build,.sl 3 (x.r.needs.map bw.D),.sl 3 (x.r.bars.map mM.D),.sl 2 (x.r.feats.map cn.D),.int .u64 x.sum,.bool x.off]
structure bM where
 name:au
 es:List kj
 deriving Inhabited,DecidableEq
def bM.D (s:bM):D:=.agg [.str s.name,.sl 11 (s.es.map kj.D)]
def Ly (nm:au)(v:ca)(x:kj):Bool:=decide (x.r.name=nm)&&L6 x.r.v v
theorem ai6 {v:ca}{x:kj}(h:¬x.r.name=nm\/L6 x.r.v v=false):Ly nm v x=false:=by
 grind [Ly]
theorem adg {v:ca}{x:kj}(h:x.r.name=nm/\L6 x.r.v v=true):Ly nm v x=true:=by
 grind [Ly]
def sG (l:List kj)(nm:au)(v:ca)(i:Nat):Int:=match(l.drop i).findIdx? (Ly nm v)with
 |some k=>((i+k:Nat):Int)
 |none=>-1
theorem YD {l:List kj}{v:ca}{i:Nat}(h:i<l.length)(he:Ly nm v l[i]! =true):sG l nm v i=(i:Nat):=by
 unfold sG;rw[fk h,List.findIdx?_cons]
 grind
theorem YF {l:List kj}{v:ca}{i:Nat}(h:i<l.length)(he:Ly nm v l[i]! =false):sG l nm v i=sG l nm v (i+1):=by
 unfold sG;have:Ly nm v l[i]=false:=by simpa[h]using he
 rw[fk h,List.findIdx?_cons]
 grind
def R0 {l:List kj}{v:ca}{i:Nat}(h:l.length<=i):sG l nm v i=-1:=by
 unfold sG;rw[ki h];rfl
def se (l:List kj)(i:Nat):Bool:=decide ((fD l[i]!.r).2=0)&&decide (wv l[i]!.r=l[i]!.sum)&&decide (sG (l.take i) l[i]!.r.name l[i]!.r.v 0<0)
def ic (s:bM):Bool:=(dn s.name&&decide (s.es.length<=64))&&b9 (se s.es) 0 s.es.length
theorem Dg (h:(fD r).2=0):gQ r.v=true:=by
 grind [dc,fD,mf]
theorem YE {l:List kj}{v:ca}:sG l nm v 0<0↔∀x∈l,Ly nm v x=false:=by
 grind [sG,Ly]
theorem FR {l:List kj}{i:Nat}(h:i<l.length)(hv:gQ l[i]!.r.v=true):decide (sG l l[i]!.r.name l[i]!.r.v 0=(i:Nat))=decide (sG (l.take i) l[i]!.r.name l[i]!.r.v 0<0):=by
 have hi:Ly l[i]!.r.name l[i]!.r.v l[i]! =true:=by unfold Ly;rw[FP hv,bA rfl];rfl
 apply lT.2;rw[YE];constructor
 .intro he x hx;obtain⟨j,hj,rfl⟩:=List.mem_take_iff_getElem.1 hx;have hj2:j<i:=ae;unfold sG at he;rw[cR]at he;cases hf:l.findIdx? (Ly l[i]!.r.name l[i]!.r.v)with
  |none=>rw[hf]at he;simp only at he;omega
  |some k=>
   rw[hf]at he;obtain⟨h1,h2,h3⟩:=List.findIdx?_eq_some_iff_getElem.1 hf;have hk:k=i:=by simp only at he;omega
   subst hk;have:=h3 j hj2;simpa using this
 .intro hx;unfold sG;rw[cR];have:l.findIdx? (Ly l[i]!.r.name l[i]!.r.v)=some i:=by
   rw[List.findIdx?_eq_some_iff_getElem];refine⟨h,by simpa[h]using hi,λj hj=>?_⟩;have:=hx l[j] (List.mem_take_iff_getElem.2 ⟨j,ae,rfl⟩);rw[this];decide
  rw[this];simp
theorem WB {l:List kj}{i:Nat}(h:i<l.length)(h1:(fD l[i]!.r).2=0)(h2:wv l[i]!.r=l[i]!.sum)(h3:sG l l[i]!.r.name l[i]!.r.v 0=(i:Nat)):se l i=true:=by
 grind [FR,Dg,se]
theorem acL {l:List kj}{i:Nat}(h:i<l.length)(h1:(¬(fD l[i]!.r).2=0\/¬wv l[i]!.r=l[i]!.sum)\/¬sG l l[i]!.r.name l[i]!.r.v 0=(i:Nat)):se l i=false:=by
 grind [se,fD,wv,FR,Dg]
theorem ael {s:bM}(h:ic s=true):s.name.length<=16/\s.es.length<=64:=by
 grind [ic,dn]
def GX (a b:Int):Int:=IntKind.i64.wrap ((BitVec.ofInt 64 a&&&BitVec.ofInt 64 b).toNat)
def bvN (a b:Int):Int:=IntKind.i64.wrap ((BitVec.ofInt 64 a&&& ~~~ BitVec.ofInt 64 b).toNat)
def bvO (a b:Int):Int:=IntKind.i64.wrap ((BitVec.ofInt 64 a |||BitVec.ofInt 64 b).toNat)
def n9 (u:Int):Int:=if u<0\/(us.length:Int)<=u then 0 else 2^(us[u.toNat]!.cands.length+1) -1
def qO (cs:List eA)(s:cA):Nat->Int
 |0=>0
 |k+1=>if pf s cs[k]!.v=true then qO cs s k+2^(k+1)else qO cs s k
def uL (w:Want):Int:=if w.u<0\/(us.length:Int)<=w.u then 0 else qO us[w.u.toNat]!.cands w.s us[w.u.toNat]!.cands.length
def m9 (us:List cJ):List ea->Int->Int
 |[],u=>n9 us u
 |t::r,u=>if t.u=u then t.m else m9 us r u
def trmB (t:ea):Bool:=decide (t.m≠0)&&decide (GX t.m (n9 us t.u)=t.m)&&decide (t.m≠n9 us t.u)
def Nq (l:List ea):Bool:=b9 (λi=>trmB us l[i]! && !(decide (0<i)&&decide (l[i]!.u<=l[i-1]!.u))) 0 l.length
def Uk (k:Nat):(2:Int)^k=((2^k:Nat):Int):=by
 induction k with
 |zero=>rfl
 |succ k ih=>rw[Int.pow_succ,ih,Nat.pow_succ];omega
def akc (h:k<=n):(2:Int)^k<=2^n:=by
 rw[Uk,Uk];exact Int.ofNat_le.2 (Nat.pow_le_pow_right aU h)
def qa (k:Nat):(1:Int)<=2^k:=by
 rw[Uk];have:=Nat.one_le_two_pow (n:=k);omega
def FU (h:k<=40):(2:Int)^k<=1099511627776:=akc h
def OT (cs:List eA)(s:cA):∀k,0<=qO cs s k/\qO cs s k<=2^(k+1) -2
 |0=>by simp[qO]
 |k+1=>by
  have ih:=OT cs s k;have h1:(2:Int)^(k+1+1)=2^(k+1)*2:=Int.pow_succ 2 (k+1);have h2:=qa (k+1);rw[qO];split<;>omega
def sureB (row:jr)(k:Int)(w:Want):Bool:=if w.u=row.unit then decide (GX (uL us w) (2^(k+1).toNat)≠0)else decide (bvN (m9 us row.terms w.u) (uL us w)=0)
def lostB (row:jr)(k:Int)(w:Want):Bool:=if w.u=row.unit then decide (GX (uL us w) (2^(k+1).toNat)=0)else decide (GX (uL us w) (m9 us row.terms w.u)=0)
def InR (x:Int):Prop:=-9223372036854775808<=x/\x<=9223372036854775807
def SJ (x:BitVec 64):IntKind.i64.wrap (x.toNat:Int)=x.toInt:=by
 have h:=x.isLt;have e:IntKind.i64.wrap (x.toNat:Int)=if decide ((x.toNat:Int)%18446744073709551616≥9223372036854775808)=true then(x.toNat:Int)%18446744073709551616-18446744073709551616 else(x.toNat:Int)%18446744073709551616:=rfl
 rw[e,BitVec.toInt_eq_toNat_cond];simp only[aV];split<;>split<;>omega
def L2 {m:Int}(h:InR m):(BitVec.ofInt 64 m).toInt=m:=by
 obtain⟨h1,h2⟩:=h;rw[BitVec.toInt_ofInt,Int.bmod_def];split<;>omega
def Wd (a b:Int):GX a b=(BitVec.ofInt 64 a&&&BitVec.ofInt 64 b).toInt:=SJ _
def ahp (a b:Int):bvO a b=(BitVec.ofInt 64 a |||BitVec.ofInt 64 b).toInt:=SJ _
def ab7 {i:Nat}(h0:0<=a)(h1:a<2^i)(hi:i<=40):bvO a (2^i)=a+2^i:=by
 have hp:=FU hi;obtain⟨n,rfl⟩:∃n:Nat,a=(n:Int):=⟨a.toNat,ae⟩
 rw[Uk]at h1 hp⊢;have h2:n<2^i:=ae;have hl:(2:Nat)^i<=1099511627776:=ae;have e:(BitVec.ofInt 64 (n:Int) |||BitVec.ofInt 64 ((2^i:Nat):Int)).toNat=n+2^i:=by
  rw[BitVec.toNat_or,BitVec.toNat_ofInt,BitVec.toNat_ofInt];have h3:((n:Int)%((2^64:Nat):Int)).toNat=n:=ae;have h4:(((2^i:Nat):Int)%((2^64:Nat):Int)).toNat=2^i:=ae;rw[h3,h4,Nat.or_comm];have:=Nat.two_pow_add_eq_or_of_lt h2 1;simp only[Nat.mul_one]at this;omega
 unfold bvO;rw[e,wrap_i64 ae ae];omega
def gM {α:Type}(f:α->Bool):List α->Nat->Int
 |[],_=>-1
 |x::r,i=>if f x=true then(i:Int)else gM f r (i+1)
def kR [Inhabited α]{f:α->Bool}{l:List α}{i:Nat}(hi:i<l.length)(h:f l[i]! =true):gM f (l.drop i) i=i:=by
 rw[fk hi,gM,ak (by simpa[hi]using h)]
def jx [Inhabited α]{f:α->Bool}{l:List α}{i:Nat}(hi:i<l.length)(h:f l[i]! =false):gM f (l.drop i) i=gM f (l.drop (i+1)) (i+1):=by
 rw[fk hi,gM,ai (by simpa[hi]using h)]
def ml {f:α->Bool}{l:List α}{i:Nat}(hi:l.length<=i):gM f (l.drop i) i=-1:=by
 rw[ki hi,gM]
def fB (b:Bool)(us:List cJ)(row:jr)(k:Int)(w:Want):Bool:=if b=true then sureB us row k w else !lostB us row k w
def aea (row:jr)(k:Int)(r:nX):Bool:=!r.any (fB false us row k)
def saysP (row:jr)(k:Nat)(mild:Bool):Bool:=if mild=true then us[row.unit.toNat]!.cands[k]!.bars.any (fB true us row (k:Int))else us[row.unit.toNat]!.cands[k]!.needs.any (aea us row (k:Int))
def eA.fz (l k:Nat)(es:List Abs.D)(c:eA):iz l k es c.D=c.D:=gA l k es _ (by simp only[eA.D,D.aT,aM,gG])
def wG.fz (l k:Nat)(es:List Abs.D)(c:wG):iz l k es c.D=c.D:=gA l k es _ (by simp only[wG.D,D.aT,aM,gG])
def jr.fz (l k:Nat)(es:List Abs.D)(c:jr):iz l k es c.D=c.D:=gA l k es _ (by simp only[jr.D,D.aT,aM,gG])
def hasU (l:List ea)(u:Int):Bool:=l.any λt=>decide (t.u=u)
def Q0 (row:jr)(mild:Bool):Bool:=hasU row.terms row.unit&&decide (GX (m9 us row.terms row.unit) 1=0)&&b9 (λk=>decide (GX (m9 us row.terms row.unit) (2^(k+1))=0) ||saysP us row k mild) 0 us[row.unit.toNat]!.cands.length
def bothU (A B:List ea)(row:jr)(u:Nat):Bool:=decide (bvN (m9 us row.terms (u:Int)) (if(u:Int)=row.unit then bvO (m9 us A (u:Int)) (m9 us B (u:Int))else GX (m9 us A (u:Int)) (m9 us B (u:Int)))=0)
def bothP (c:wG)(row:jr)(i:Int):Bool:=decide (n9 c.w.us row.unit≠0)&&(decide (0<=row.a)&&decide (row.a<i))&&(decide (0<=row.b)&&decide (row.b<i))&&(Nq c.w.us c.rows[row.a.toNat]!.terms&&Nq c.w.us c.rows[row.b.toNat]!.terms)&&b9 (bothU c.w.us c.rows[row.a.toNat]!.terms c.rows[row.b.toNat]!.terms row) 0 c.w.us.length
def askP (c:wG)(row:jr):Bool:=decide (n9 c.w.us row.unit≠0)&&decide (row.unit<c.allow.length)&&decide (GX (m9 c.w.us row.terms row.unit) c.allow[row.unit.toNat]! =0)
def kindP (c:wG)(row:jr)(i:Int):Bool:=if row.kind=5 then bothP c row i else decide (row.a=0)&&decide (row.b=0)&&(if row.kind=1 then decide (row.unit=0)&&decide (m9 c.w.us row.terms 0=1)else if row.kind=2\/row.kind=3 then Q0 c.w.us row (decide (row.kind=3))else if row.kind=4 then askP c row else false)
def aje (c:wG)(i:Int):Bool:=decide (0<=i)&&decide (i<c.rows.length)&&Nq c.w.us c.rows[i.toNat]!.terms&&kindP c c.rows[i.toNat]! i
def mP (f:Nat->Bool):Nat->Nat->Nat
 |0,i=>i
 |k+1,i=>if f i=true then mP f k (i+1)else i
def GQ {f:Nat->Bool}{i:Nat}(hi:i<n)(h:f i=true):mP f (n-i) i=mP f (n-(i+1)) (i+1):=by
 obtain⟨k,hk⟩:∃k,n-i=k+1:=⟨n-i-1,ae⟩
 rw[hk,mP,ak h,show k=n-(i+1)by omega]
def QN {f:Nat->Bool}{i:Nat}(hi:i<n)(h:f i=false):mP f (n-i) i=i:=by
 obtain⟨k,hk⟩:∃k,n-i=k+1:=⟨n-i-1,ae⟩
 rw[hk,mP,ai (by rw[h];exact Bool.false_ne_true)]
def KX {f:Nat->Bool}{i:Nat}(hi:n<=i):mP f (n-i) i=i:=by
 rw[show n-i=0 by omega,mP]
def ab6 (a b:Int):InR (GX a b):=by
 rw[Wd];have h1:=BitVec.le_toInt (BitVec.ofInt 64 a&&&BitVec.ofInt 64 b);have h2:=BitVec.toInt_lt (x:=BitVec.ofInt 64 a&&&BitVec.ofInt 64 b);exact⟨by simpa using h1,by have:=h2;simp at this;omega⟩
def DU (hb:b=(n:Int))(hn:n<=39):IntKind.i64.wrap (2*2^(min b.toNat IntKind.i64.bits))=2^(n+1):=by
 subst hb;have h:=FU (k:=n+1) ae;have h2:=qa n;rw[Int.pow_succ]at h;rw[show min (Int.toNat (n:Int)) IntKind.i64.bits=n from Nat.min_eq_left (by simp only[IntKind.bits];omega),Int.pow_succ,Int.mul_comm];exact wrap_i64 ae ae
def nU [Inhabited α]{l:List α}{i:Nat}(h:i<l.length):l.take i++[l[i]!]=l.take (i+1):=by
 rw[List.take_succ,show l[i]? =some l[i]! by simp[h]];rfl
def bitI (m:Int)(i:Nat):Bool:=decide (IntKind.i64.wrap ((BitVec.ofInt 64 (m.fdiv (2^(min (i:Int).toNat 64))))&&&(BitVec.ofInt 64 1)).toNat=1)
def VP (n:Nat)(s:cA):Prop:=s.sm/\s.rel.length<=n/\s.pr.length<=n
def VP.s {s:cA}(h:VP n s)(hn:n<=1000):SetS s:=⟨⟨h.1.1,eR h.2.1 hn⟩,⟨h.1.2,eR h.2.2 hn⟩⟩
def VP.mono {s:cA}(h:VP n s)(hn:n<=k):VP k s:=⟨h.1,eR h.2.1 hn,eR h.2.2 hn⟩
inductive NF where
 |nil|sl (l:List nX)|own (k:Nat)
 deriving Inhabited
inductive BF where
 |nil|sl (l:List Want)|own (k:Nat)
 deriving Inhabited
def NF.D (e:Nat):NF->D
 | .nil=>.aL
 | .sl l=>.sl 1 (l.map jI)
 | .own k=>.own e 1 0 k
def BF.D (e:Nat):BF->D
 | .nil=>.aL
 | .sl l=>.sl 3 (l.map Want.D)
 | .own k=>.own e 3 0 k
structure CW where
 v:ca
 sh:Int
 n:NF
 b:BF
 deriving Inhabited
def CW.D (e:Nat)(c:CW):D:=.agg [.int .i64 c.v.major,.int .i64 c.v.minor,.int .i64 c.v.patch,.str c.v.pre,.str c.v.build,.int .i64 c.sh,c.n.D e,c.b.D e]
def NF.pl:NF->Bool
 | .own _=>false
 |_=>true
def BF.pl:BF->Bool
 | .own _=>false
 |_=>true
def CW.pl (c:CW):Bool:=c.n.pl&&c.b.pl
def CW.aT {e:Nat}{c:CW}(h:c.pl=true):(c.D e).aT=true:=by
 obtain⟨v,sh,n,b⟩:=c;cases n<;>cases b<;>first|(simp[CW.pl,NF.pl,BF.pl]at h;done)|rfl
theorem CW.rn {e e' lo:Nat}(h:mN lo σ e=some e')(c:CW):rW lo σ (c.D e)=some (c.D e'):=by
 obtain⟨v,sh,n,b⟩:=c;cases n<;>cases b<;>simp[CW.D,NF.D,BF.D,rW,oB,Si,h]
def CsOk (n:Nat)(cs:Nat->List CW):Prop:=(2<=n/\n<=8)/\∀t,(cs t).length<=4/\∀c∈cs t,c.v.sm
def Want.fz (l k:Nat)(es:List Abs.D)(w:Want):iz l k es w.D=w.D:=gA l k es _ (by simp only[Want.D,D.aT,aM,gG])
def Gs.fz (l k:Nat)(es:List Abs.D)(g:Gs):iz l k es g.D=g.D:=gA l k es _ (by simp only[Gs.D,D.aT,aM,gG])
structure RU where
 name:au
 feat:au
 cs:List CW
 deriving Inhabited
def rawC (v:ca):CW:=⟨v,0,.nil,.nil⟩
def V7 (m:Int):Nat->List ca
 |0=>[]
 |i+1=>if bitI m i=true then V7 m i++[bJ[i]!]else V7 m i
def RU.pl (u:RU):=∀c∈u.cs,c.pl=true
def Gs.SD (g:Gs)(n:Int):(1<=n->0<=g.val n/\g.val n<n)/\(n<1->g.val n=0):=⟨λh=>c9 _ _ h,λh=>by simp only[Gs.val,bo];rw[ak h]⟩
variable(g:Gs)
def CInv (vs:Nat->List ca)(B:Nat->List CW):=∀t,(B t).map CW.v=vs t/\∀c∈B t,c.pl=true
def CInv.len {B:Nat->List CW}(h:CInv vs B):(λj=>(B j).length)=λj=>(vs j).length:=by
 funext j;rw[<-(h j).1,aZ]
def NF.p:NF->List nX
 | .sl l=>l
 |_=>[]
def BF.p:BF->List Want
 | .sl l=>l
 |_=>[]
def CW.p (c:CW):eA:=⟨c.v,c.sh,c.n.p,c.b.p⟩
variable{B:Nat->List CW}
def VT (vs:Nat->List ca)(B:Nat->List CW):=∀t,(B t).map CW.v=vs t
def CInv.v (h:CInv vs B):VT vs B:=λt=>(h t).1
def VT.len (h:VT vs B):(λj=>(B j).length)=λj=>(vs j).length:=by
 funext j;rw[<-h j,aZ]
def VsOk (vs:Nat->List ca):=∀t,(vs t).length<=4/\∀v∈vs t,v.sm
def VT.ok (h:VT vs B)(hn:2<=n/\n<=8)(hv:VsOk vs):CsOk n B:=by
 refine⟨hn,λt=>⟨?_,λc hc=>?_⟩⟩
 .have:=(hv t).1;rw[<-h t,aZ]at this;exact this
 .exact(hv t).2 _ (by rw[<-h t];exact List.mem_map_of_mem hc)
def bR.fz (l k:Nat)(es:List Abs.D)(w:bR):iz l k es w.D=w.D:=gA l k es _ rfl
variable(w:bR)
theorem ea.eq (a b:ea):ik (ea.D a).cells (ea.D b).cells=decide (a=b):=by
 cases a;cases b
 grind [ea.D,D.cells,ik,Bz]
def iT (i:Nat):List Int:=(List.range i).map λu=>n9 us ((u:Nat):Int)
def Oq (i:Nat):(iT us i).length=i:=by simp[iT]
def Oo (i:Nat):iT us i++[n9 us ((i:Nat):Int)]=iT us (i+1):=by
 simp[iT,List.range_succ]
def stI64 {xs:List Int}{i:Nat}(h:i<xs.length)(v:Int):(xs.map (D.int .i64)).set i (pA ((xs.map (D.int .i64)).getD i .any) 1 1 0 (.int .i64 v))=(xs.set i v).map (D.int .i64):=by
 rw[getD_map h,List.map_set];rfl
def Few:=∀u∈us,∀c∈u.cands,c.needs.length<=1000/\c.bars.length<=1000/\∀r∈c.needs,r.length<=1000
structure Prv where
 w:bR
 facts:List jr
 x:D
def Prv.D (p:Prv):Abs.D:=.agg [.sl 3 (p.w.us.map cJ.D),.sl 5 (p.facts.map jr.D),p.x]
def bt (m:Int)(i:Nat):Bool:=(BitVec.ofInt 64 m).getLsbD i
def ofInt_toInt (x:BitVec 64):BitVec.ofInt 64 x.toInt=x:=BitVec.ofInt_toInt
def V8 (a b:Int)(i:Nat):bt (GX a b) i=(bt a i&&bt b i):=by
 unfold bt;rw[Wd,ofInt_toInt,BitVec.getLsbD_and]
def bt_or (a b:Int)(i:Nat):bt (bvO a b) i=(bt a i ||bt b i):=by
 unfold bt;rw[ahp,ofInt_toInt,BitVec.getLsbD_or]
def ahn (ha:InR a)(hb:InR b)(h:∀i,bt a i=bt b i):a=b:=by
 have e:BitVec.ofInt 64 a=BitVec.ofInt 64 b:=by
  ext i hi
  have:=h i;unfold bt at this
  rwa [BitVec.getLsbD_eq_getElem hi,BitVec.getLsbD_eq_getElem hi]at this
 rw[<-L2 ha,<-L2 hb,e]
def InR0:InR 0:=⟨aU,aU⟩
def GW (i:Nat):bt 0 i=false:=by unfold bt;simp
def We:GX a b=0↔∀i,¬(bt a i=true/\bt b i=true):=by
 constructor
 .intro h i hi;have:=V8 a b i;rw[h,GW,hi.1,hi.2]at this;exact absurd this aU
 .intro h;refine ahn (ab6 _ _) InR0 λi=>?_
  rw[V8,GW];have:=h i;revert this;cases bt a i<;>cases bt b i<;>simp
def aho:GX a b≠0↔∃i,bt a i=true/\bt b i=true:=by
 rw[Ne,We];constructor
 .intro h;exact Classical.byContradiction λg=>h λi hi=>g ⟨i,hi⟩
 .rintro⟨i,hi⟩ h;exact h i hi
def N8 (hk:k<=40)(i:Nat):bt (2^k) i=decide (i=k):=by
 unfold bt;rw[Uk];have hl:(2:Nat)^k<=1099511627776:=by
  have:=FU hk;rw[Uk]at this;omega
 rw[show BitVec.ofInt 64 ((2^k:Nat):Int)=BitVec.ofNat 64 (2^k)from BitVec.ofInt_natCast ..];rw[BitVec.getLsbD_ofNat,Nat.testBit_two_pow];by_cases e:k=i
 .subst e;simp;omega
 .rw[bN e,Bool.and_false,bN (λh=>e h.symm)]
def QT (cs:List eA)(s:cA)(i:Nat):∀k,k<=16->bt (qO cs s k) i=(decide (1<=i)&&decide (i<=k)&&pf s cs[i-1]!.v)
 |0,_=>by
  rw[qO,GW];by_cases h:1<=i
  .rw[bN (show ¬i<=0 by omega)];simp
  .rw[bN h];rfl
 |k+1,hk=>by
  have ih:=QT cs s i k ae;have hr:=OT cs s k;rw[qO];split
  .rename_i h;rw[<-ab7 hr.1 (by have:=qa (k+1);omega) ae,bt_or,ih,N8 ae];by_cases e:i=k+1
   .subst e;rw[show k+1-1=k from rfl,h];simp
   .rw[bN e,Bool.or_false];congr 2;rw[lT];omega
  .rename_i h;rw[ih];by_cases e:i=k+1
   .subst e;simp only[Bool.not_eq_true]at h;rw[show k+1-1=k from rfl,h];simp
   .congr 2;rw[lT];omega
def V9 {us:List cJ}{w:Want}{u:Nat}(hw:w.u=((u:Nat):Int))(hu:u<us.length)(hs:∀x∈us,x.cands.length<=16)(i:Nat):bt (uL us w) i=(decide (1<=i)&&decide (i<=us[u]!.cands.length)&&pf w.s us[u]!.cands[i-1]!.v):=by
 have hc:=hs _ (aq hu);unfold uL;rw[ai ae,hw];exact QT _ _ _ _ hc
abbrev S16:Prop:=∀x∈us,x.cands.length<=16
def agD (allow:List Int)(r:jr):Prop:=Nq us r.terms=true/\(r.a=0/\r.b=0)/\(0<=r.unit/\r.unit<us.length)/\
 (r.kind=1/\r.unit=0/\m9 us r.terms 0=1\/(r.kind=2\/r.kind=3)/\Q0 us r (decide (r.kind=3))=true\/r.kind=4/\r.unit<allow.length/\GX (m9 us r.terms r.unit) allow[r.unit.toNat]! =0)
abbrev AllOK (allow:List Int)(rows:List jr):Prop:=∀x∈rows,agD us allow x
def COK (c:List Int):Prop:=c.length<=us.length/\∀u,u<c.length->-1<=c[u]! /\c[u]! <us[u]!.cands.length
def vb (c:List Int)(u:Nat):Nat:=(c[u]! +1).toNat
def VM (allow:List Int)(rows:List jr):=∀i,i<rows.length->aje ⟨w,allow,rows⟩ ((i:Nat):Int)=true
def Near (c:List Int)(k:Nat)(l:List ea):Prop:=Nq us l=true/\(∀t∈l,t.u<c.length+1)/\(∀u,u<c.length->bt (m9 us l ((u:Nat):Int)) (vb c u)=true)/\∀j,j<k->bt (m9 us l ((c.length:Nat):Int)) j=true
def COK.app {us:List cJ}{i:Int}(h:COK us c)(hl:c.length<us.length)(h1:-1<=i)(h2:i<us[c.length]!.cands.length):COK us (c++[i]):=by
 refine⟨dR,λu hu=>?_⟩;rw[cu,List.length_singleton]at hu;rcases dZ u c.length with h3|h3
 .rw[List.getElem!_eq_getElem?_getD,List.getElem?_append_left h3,<-List.getElem!_eq_getElem?_getD];exact h.2 u h3
 .obtain rfl:u=c.length:=ae;simp only[List.getElem!_eq_getElem?_getD,List.getElem?_concat_length,Option.getD_some]at*
  exact⟨h1,h2⟩
section
def subsV:List (List ca):=(List.range 16).map λm=>V7 ((m:Nat):Int) 4
set_option maxRecDepth 10000
def xd:∀v∈bJ,wj (dJ v)=true/\gQ v=true:=by decide+kernel
def RU.ok (u:RU):Prop:=u.name≠[]/\∃vs,vs∈subsV/\u.cs=vs.map rawC
def SInv (al c:List Int)(k:Nat)(now:Int)(R:List jr):Prop:=VM w al R/\(k=0/\now=-1\/0<k/\(0<=now/\now<R.length)/\Near w.us c k R[now.toNat]!.terms)/\R.length<=5100+2*k
def NPre (al:List Int)(facts:List jr)(c:List Int)(rows:List jr):Prop:=((w.sm/\S16 w.us/\w.us.length<=48)/\AllOK w.us al facts)/\(COK w.us c/\VM w al rows)/\rows.length<=100000
def NPre.app {w:bR}{al:List Int}{facts:List jr}{c:List Int}{rows R:List jr}{k:Nat}(h:NPre w al facts c rows)(hl:c.length<w.us.length)(hk:k<w.us[c.length]!.cands.length+1){now:Int}(hI:SInv w al c k now R):NPre w al facts (c++[((k:Nat):Int) -1]) R:=by
 have h16:=h.1.1.2.1 _ (aq hl);exact⟨h.1,⟨h.2.1.1.app hl ae ae,hI.1⟩,by have:=hI.2.2;omega⟩
def afH (r:jr):jr:=⟨r.kind,r.unit,r.b,r.a,r.terms⟩
def VR (L R:List jr):Prop:=R.length=L.length/\∀k,k<L.length->R[k]! =L[k]! \/(L[k]!.kind=5/\R[k]! =afH L[k]!)
def ZR {xs:List jr}{i u:Nat}{v:jr}(hu:u<xs.length):(xs.set i v)[u]! =if i=u then v else xs[u]! :=by
 simp only[List.getElem!_eq_getElem?_getD,List.getElem?_set];split
 .rename_i h;subst h;rw[ak hu];rfl
 .rfl
def VR.step {L R:List jr}{i:Nat}(h:VR L R)(hi:i<L.length)(hk:R[i]!.kind=5):VR L (R.set i (afH R[i]!)):=by
 refine⟨by rw[List.length_set];exact h.1,λk hk2=>?_⟩;rw[ZR (by rw[h.1];exact hk2)];split
 .rename_i e;subst e;rcases h.2 i hi with h1|⟨h1,h2⟩
  .exact .inr ⟨by rw[<-h1];exact hk,by rw[h1]⟩
  .exact .inl (by rw[h2];rfl)
 .exact h.2 k hk2
end
def Tc (κ:Nat->Nat)(x:Want):Prop:=bt (uL us x) (κ x.u.toNat)=true
structure SolP (us:List cJ)(κ:Nat->Nat):Prop where
 pos:0<us.length
 root:κ 0≠0
 le:∀u,u<us.length->κ u<=us[u]!.cands.length
 needs:∀u,u<us.length->κ u≠0->∀r∈us[u]!.cands[κ u-1]!.needs,∃x∈r,Tc us κ x
 bars:∀u,u<us.length->κ u≠0->∀x∈us[u]!.cands[κ u-1]!.bars,¬Tc us κ x
 inU:∀u,u<us.length->κ u≠0->(∀r∈us[u]!.cands[κ u-1]!.needs,∀x∈r,0<=x.u/\x.u<us.length)/\∀x∈us[u]!.cands[κ u-1]!.bars,0<=x.u/\x.u<us.length
def bt_p {i:Nat}(hk:k<=40)(h:i=k):bt (2^k) i=true:=by
 rw[N8 hk];simpa using h
def B4 {f:Nat->Bool}:∀k i,¬mP f k i<i+k->∀j,i<=j->j<i+k->f j=true
 |0,i,_,j,h1,h2=>ae
 |k+1,i,h,j,h1,h2=>by
  rw[mP]at h;split at h
  .rename_i e;by_cases q:j=i
   .subst q;exact e
   .exact B4 k (i+1) (by rw[show i+1+k=i+(k+1)by omega];exact h) j ae ae
  .omega
def eD (l:List Want):List ea:=l.map λx=>⟨x.u,uL us x⟩
structure kn where
 full:List Int
 needs:List (List (List (List ea)))
 bars:List (List (List ea))
 deriving Inhabited
def Iq (l:List ea):D:=.sl 2 (l.map ea.D)
def oN (l:List (List ea)):D:=.sl 1 (l.map Iq)
def qi (l:List (List (List ea))):D:=.sl 1 (l.map oN)
def kn.D (m:kn):D:=.agg [.sl 1 (m.full.map (D.int .i64)),.sl 1 (m.needs.map qi),.sl 1 (m.bars.map oN)]
def kZ (l:List nX):List (List ea):=l.map (eD us)
def eP (cs:List eA):List (List (List ea)):=cs.map λc=>kZ us c.needs
def jE (cs:List eA):List (List ea):=cs.map λc=>eD us c.bars
def eC (i:Nat):List (List (List (List ea))):=(us.take i).map λu=>eP us u.cands
def jD (i:Nat):List (List (List ea)):=(us.take i).map λu=>jE us u.cands
def dz:kn:=⟨iT us us.length,eC us us.length,jD us us.length⟩
def C1 (c:List Int)(x:ea):Bool:=decide (0<=c[x.u.toNat]!)&&decide (GX x.m (2^(c[x.u.toNat]!.toNat+1))≠0)
def kr (c:List Int)(l:List ea):Bool:=oK (λi=>C1 c l[i]!) 0 l.length
def WW (m:kn)(c:List Int)(u:Nat):Bool:=decide (c[u]! <0) ||(b9 (λk=>kr c m.needs[u]![c[u]!.toNat]![k]!) 0 m.needs[u]![c[u]!.toNat]!.length&& !kr c m.bars[u]![c[u]!.toNat]!)
def Cj (m:kn)(c:List Int):Bool:=decide (0<=c[0]!)&&b9 (WW m c) 0 c.length
def ChP (c:List Int):Prop:=c.length=us.length/\∀u,u<us.length->-1<=c[u]! /\c[u]! <us[u]!.cands.length
def Ab (c:List Int)(u:Nat):Nat:=(c[u]! +1).toNat
def fK {β:Type}[Inhabited α][Inhabited β]{f:α->β}{l:List α}{i:Nat}(h:i<l.length):(l.map f)[i]! =f l[i]! :=by simp[h]
def LU {us:List cJ}{x:Want}(hs:∀x∈us,x.cands.length<=16)(hc:ChP us c)(h0:0<=x.u)(h1:x.u<us.length):C1 c ⟨x.u,uL us x⟩=true↔Tc us (Ab c) x:=by
 obtain⟨u,hu⟩:∃u:Nat,x.u=((u:Nat):Int):=⟨x.u.toNat,ae⟩
 have hul:u<us.length:=ae;have hcu:=hc.2 u hul;have h16:=hs _ (aq hul);unfold C1 Tc Ab;dsimp only;rw[hu,Int.toNat_natCast,aC,aV,aV,aho];constructor
 .rintro⟨h2,i,h3,h4⟩;rw[N8 ae]at h4;obtain rfl:i=c[u]!.toNat+1:=by simpa using h4
  rw[show(c[u]! +1).toNat=c[u]!.toNat+1 by omega];exact h3
 .intro h2;have h3:=h2;rw[V9 hu hul hs]at h3;simp only[aC,aV]at h3;refine⟨ae,(c[u]! +1).toNat,h2,bt_p ae ae⟩
def LB {l:List ea}:kr c l=true↔∃x∈l,C1 c x=true:=by
 unfold kr;rw[wN];constructor
 .rintro⟨j,_,h2,h3⟩;exact⟨_,aq h2,h3⟩
 .rintro⟨x,hx,h⟩;obtain⟨j,hj,rfl⟩:=List.mem_iff_getElem.1 hx;exact⟨j,Nat.zero_le _,hj,by simpa[hj]using h⟩
def Ei {w:bR}(h:eE w=true){u:Nat}(hu:u<w.us.length)(hk:k<w.us[u]!.cands.length):(∀r∈w.us[u]!.cands[k]!.needs,∀x∈r,0<=x.u/\x.u<w.us.length)/\∀x∈w.us[u]!.cands[k]!.bars,0<=x.u/\x.u<w.us.length:=by
 unfold eE at h;rw[aC,bD]at h;have h3:=h.2 u ae hu;unfold lF at h3;rw[aC,bD]at h3;have h4:=h3.2 k ae hk;unfold m6 at h4;simp only[aC]at h4;have h5:=h4.1.2;unfold mZ at h5;simp only[aC,aV]at h5;have hw:∀(l:List Want),pB (w.us.length:Int) l=true->∀x∈l,0<=x.u/\x.u<w.us.length:=by
  intro l hl x hx;unfold pB at hl;rw[bD]at hl;obtain⟨j,hj,rfl⟩:=List.mem_iff_getElem.1 hx;have:=hl j ae hj;unfold sX at this;simp only[hj,getElem!_pos,aC,aV]at this;omega
 refine⟨λr hr=>?_,hw _ h5.2⟩;have h6:=h5.1.2;rw[bD]at h6;obtain⟨j,hj,rfl⟩:=List.mem_iff_getElem.1 hr;have:=h6 j ae hj;unfold rJ at this;simp only[hj,getElem!_pos,aC]at this;exact hw _ this.1
def X8 {us:List cJ}{u:Nat}(hu:u<us.length)(hk:k<us[u]!.cands.length):(dz us).needs[u]![k]! =kZ us us[u]!.cands[k]!.needs:=by
 unfold dz eC eP;dsimp only;rw[List.take_length,fK hu,fK hk]
def abV {us:List cJ}{u:Nat}(hu:u<us.length)(hk:k<us[u]!.cands.length):(dz us).bars[u]![k]! =eD us us[u]!.cands[k]!.bars:=by
 unfold dz jD jE;dsimp only;rw[List.take_length,fK hu,fK hk]
def akW {w:bR}(hw:eE w=true)(hs:∀x∈w.us,x.cands.length<=16)(hc:ChP w.us c)(h:Cj (dz w.us) c=true):SolP w.us (Ab c):=by
 have hpos:0<w.us.length:=by
  unfold eE at hw;simp only[aC,aV]at hw;omega
 unfold Cj at h;rw[aC,aV,bD,hc.1]at h;obtain⟨h0,hf⟩:=h;have hk:∀u,u<w.us.length->Ab c u≠0->c[u]!.toNat=Ab c u-1/\Ab c u-1<w.us[u]!.cands.length/\b9 (λk=>kr c (kZ w.us w.us[u]!.cands[Ab c u-1]!.needs)[k]!) 0 (kZ w.us w.us[u]!.cands[Ab c u-1]!.needs).length=true/\kr c (eD w.us w.us[u]!.cands[Ab c u-1]!.bars)=false:=by
  intro u hu hk;have hcu:=hc.2 u hu;have h1:=hf u (Nat.zero_le _) hu;have e:c[u]!.toNat=Ab c u-1:=by unfold Ab at*;omega
  have hl:Ab c u-1<w.us[u]!.cands.length:=by unfold Ab at*;omega
  unfold WW at h1;rw[dF,aV]at h1;have h2:=h1.resolve_left (by unfold Ab at hk;omega);rw[e,X8 hu hl,abV hu hl]at h2;rw[aC,cG]at h2;exact⟨e,hl,h2.1,h2.2⟩
 have hin:∀u,u<w.us.length->Ab c u≠0->(∀r∈w.us[u]!.cands[Ab c u-1]!.needs,∀x∈r,0<=x.u/\x.u<w.us.length)/\∀x∈w.us[u]!.cands[Ab c u-1]!.bars,0<=x.u/\x.u<w.us.length:=λu hu h=>Ei hw hu (hk u hu h).2.1
 refine⟨hpos,by unfold Ab;omega,λu hu=>?_,λu hu hk0 r hr=>?_,λu hu hk0 x hx hm=>?_,hin⟩
 .have:=hc.2 u hu;unfold Ab;omega
 .have h1:=(hk u hu hk0).2.2.1;rw[bD]at h1;obtain⟨j,hj,rfl⟩:=List.mem_iff_getElem.1 hr;have h2:=h1 j (Nat.zero_le _) (by unfold kZ;simpa using hj);unfold kZ at h2;rw[fK hj,LB]at h2;obtain⟨y,hy,hm⟩:=h2;unfold eD at hy;obtain⟨x,hx,rfl⟩:=cg.1 hy;simp only[hj,getElem!_pos]at hx;have:=(hin u hu hk0).1 _ hr x hx;exact⟨x,hx,(LU hs hc this.1 this.2).1 hm⟩
 .have h1:=(hk u hu hk0).2.2.2;have hi:=(hin u hu hk0).2 x hx;have:kr c (eD w.us w.us[u]!.cands[Ab c u-1]!.bars)=true:=LB.2 ⟨_,cg.2 ⟨x,hx,rfl⟩,(LU hs hc hi.1 hi.2).2 hm⟩;rw[h1]at this;cases this
def aiO (l k:Nat)(es:List D)(xs:List (List ea)):lu l k es (xs.map Iq)=xs.map Iq:=jM l k es _ (bQ (λ_=>rfl) _)
def acU (l k:Nat)(es:List D)(xs:List (List (List ea))):lu l k es (xs.map oN)=xs.map oN:=jM l k es _ (bQ (λ_=>rfl) _)
def W6 (l k:Nat)(es:List D)(xs:List (List (List (List ea)))):lu l k es (xs.map qi)=xs.map qi:=jM l k es _ (bQ (λ_=>rfl) _)
def acT (l k:Nat)(es:List D)(xs:List Int):lu l k es (xs.map (D.int .i64))=xs.map (D.int .i64):=jM l k es _ (bQ (λ_=>rfl) _)
def U6 {us:List cJ}{l:List Want}{i:Nat}(h:i<l.length):eD us (l.take i)++[⟨l[i]!.u,uL us l[i]!⟩]=eD us (l.take (i+1)):=by
 unfold eD;rw[<-nU h];simp
def U7 (l:List Want)(i:Nat):(eD us (l.take i)).length<=i:=by
 unfold eD;rw[aZ,dQ];omega
def UO {us:List cJ}{l:List nX}{i:Nat}(h:i<l.length):kZ us (l.take i)++[eD us l[i]!]=kZ us (l.take (i+1)):=by
 unfold kZ;rw[<-nU h];simp
def UP (l:List nX)(i:Nat):(kZ us (l.take i)).length<=i:=by
 unfold kZ;rw[aZ,dQ];omega
def O0 {us:List cJ}{l:List eA}{i:Nat}(h:i<l.length):eP us (l.take i)++[kZ us l[i]!.needs]=eP us (l.take (i+1)):=by
 unfold eP;rw[<-nU h];simp
def O1 (l:List eA)(i:Nat):(eP us (l.take i)).length<=i:=by
 unfold eP;rw[aZ,dQ];omega
def Tm {us:List cJ}{l:List eA}{i:Nat}(h:i<l.length):jE us (l.take i)++[eD us l[i]!.bars]=jE us (l.take (i+1)):=by
 unfold jE;rw[<-nU h];simp
def Tn (l:List eA)(i:Nat):(jE us (l.take i)).length<=i:=by
 unfold jE;rw[aZ,dQ];omega
def OY {us:List cJ}{i:Nat}(h:i<us.length):eC us i++[eP us us[i]!.cands]=eC us (i+1):=by
 unfold eC;rw[<-nU h];simp
def OZ (i:Nat):(eC us i).length<=i:=by
 unfold eC;rw[aZ,dQ];omega
def Tk {us:List cJ}{i:Nat}(h:i<us.length):jD us i++[jE us us[i]!.cands]=jD us (i+1):=by
 unfold jD;rw[<-nU h];simp
def Tl (i:Nat):(jD us i).length<=i:=by
 unfold jD;rw[aZ,dQ];omega
def KL (c:List Int)(x:ea):Prop:=(0<=x.u/\x.u<c.length)/\c[x.u.toNat]! <=30
def FineP (m:kn)(c:List Int):Prop:=(0<c.length/\c.length<=1000/\m.needs.length=c.length/\m.bars.length=c.length)/\∀u,u<c.length->0<=c[u]! ->(c[u]!.toNat<m.needs[u]!.length/\c[u]!.toNat<m.bars[u]!.length)/\(∀r∈m.needs[u]![c[u]!.toNat]!,∀x∈r,KL c x)/\∀x∈m.bars[u]![c[u]!.toNat]!,KL c x
def e7 {α:Type} [Inhabited α]{f:α->Bool}:∀{l:List α}{k:Nat},(gM f l k=-1/\∀q,q<l.length->f l[q]! =false)\/∃j:Nat,gM f l k=((k+j:Nat):Int)/\j<l.length/\f l[j]! =true/\∀q,q<j->f l[q]! =false
 |[],k=>.inl ⟨rfl,λq h=>absurd h (Nat.not_lt_zero q)⟩
 |x::r,k=>by
  rw[gM];split
  .rename_i h;exact .inr ⟨0,rfl,aB,rp,λq h=>absurd h (Nat.not_lt_zero q)⟩
  .rename_i h;have hx:f x=false:=by simpa using h
   rcases e7 (f:=f) (l:=r) (k:=k+1)with⟨h1,h2⟩|⟨j,h1,h2,h3,h4⟩
   .refine .inl ⟨h1,λq hq=>?_⟩;cases q with
    |zero=>simpa using hx
    |succ q=>simpa using h2 q (by simpa using hq)
   .refine .inr ⟨j+1,by rw[h1];omega,by simpa using h2,by simpa using h3,λq hq=>?_⟩;cases q with
    |zero=>simpa using hx
    |succ q=>simpa using h4 q ae
def ada [Inhabited α]{f:α->Bool}{l:List α}{i:Nat}(h:i<l.length)(hf:f l[i]! =true):0<=gM f l 0/\gM f l 0<=i:=by
 rcases e7 (f:=f) (l:=l) (k:=0)with⟨h1,h2⟩|⟨j,h1,h2,h3,h4⟩
 .rw[h2 i h]at hf;cases hf
 .have:¬i<j:=λhj=>by rw[h4 i hj]at hf;cases hf
  omega
def FA (nm:au)(s:bM):Bool:=decide (s.name=nm)
def mE (l:List bM)(nm:au):Int:=gM (FA nm) l 0
def Bi (l:List bM)(i:Nat):Bool:=ic l[i]! &&decide (mE l l[i]!.name=(i:Nat))
def eS (l:List bM):Bool:=decide (l.length<=4)&&b9 (Bi l) 0 l.length
def jl (l:List bM):=∀s∈l,∀x∈s.es,ir x.r
def aep {l:List bM}{i:Nat}(h:i<l.length):0<=mE l l[i]!.name/\mE l l[i]!.name<=i:=ada h (by simp[FA])
theorem aeo {l:List bM}{i:Nat}(h:ic l[i]! =false\/¬mE l l[i]!.name=(i:Nat)):Bi l i=false:=by
 grind [Bi]
theorem ZX {l:List bM}{i:Nat}(h:ic l[i]! =false\/mE l l[i]!.name<(i:Nat)):Bi l i=false:=by
 grind [Bi]
theorem Ng {l:List bM}{i:Nat}(h:ic l[i]! =true/\mE l l[i]!.name=(i:Nat)):Bi l i=true:=by
 grind [Bi]
def UT {l:List bM}{i:Nat}(hi:i<l.length)(h:ic l[i]! =true/\¬mE l l[i]!.name<(i:Nat)):Bi l i=true:=by
 have:=aep hi;exact Ng ⟨h.1,ae⟩
def bM.fz (l k:Nat)(es:List Abs.D)(c:bM):iz l k es c.D=c.D:=gA l k es _ (by simp only[bM.D,D.aT,aM,gG])
variable(shop:List bM)
def jR (s:bM)(nm:au)(v:ca):Int:=if ic s=false then-1 else sG s.es nm v 0
def nE (a b:au)(u:cJ):Bool:=decide (u.name=a)&&decide (u.feat=b)
def gw (a b:au):Int:=gM (nE a b) (us.drop 1) 1
def Vf (v:ca)(whole:Bool)(c:eA):Bool:=bif whole then decide (c.v=v)else decide (iL c.v v=0)
def mA (u:Int)(v:ca)(whole:Bool):Int:=if u<0 then-1 else gM (Vf v whole) us[u.toNat]!.cands 0
def oC (c:eA)(x:dr):Int:=
 if c.sh=-1 then(if x.shelf≠[]then 12 else if x.sum≠0 then 13 else 0)
 else if c.sh<0\/(shop.length:Int)<=c.sh\/shop[c.sh.toNat]!.name≠x.shelf then 12
 else if jR shop[c.sh.toNat]! x.name x.v<0\/shop[c.sh.toNat]!.es[(jR shop[c.sh.toNat]! x.name x.v).toNat]!.sum≠x.sum then 13 else 0
def vN (us:List cJ)(x:dr):List au->List Int->Int×List Int
 |[],c=>(0,c)
 |f::r,c=>if mA us (gw us x.name f) x.v false<0 then(11,c)else vN us x r (c.set (gw us x.name f).toNat (mA us (gw us x.name f) x.v false))
def mT (us:List cJ)(x:dr)(c:List Int):Int×List Int:=
 if mA us (gw us x.name []) x.v true<0 then(9,c)
 else if oC shop us[(gw us x.name []).toNat]!.cands[(mA us (gw us x.name []) x.v true).toNat]! x≠0 then(oC shop us[(gw us x.name []).toNat]!.cands[(mA us (gw us x.name []) x.v true).toNat]! x,c)
 else vN us x x.feats (c.set (gw us x.name []).toNat (mA us (gw us x.name []) x.v true))
def vT (shop:List bM)(us:List cJ):List dr->List Int->List Int×Int×au
 |[],c=>(c,0,[])
 |x::r,c=>if(mT shop us x c).1≠0 then([],(mT shop us x c).1,x.name)else vT shop us r (mT shop us x c).2
structure wH where
 kind:Int
 unit:Int
 at':Int
 deriving Inhabited,DecidableEq
def wH.D (f:wH):D:=.agg [.int .i64 f.kind,.int .i64 f.unit,.int .i64 f.at']
def yU (c:List Int)(i:Nat):Bool:=decide (-1<=c[i]!)&&decide (c[i]! <(w.us[i]!.cands.length:Int))
def sn (c:List Int):Bool:=decide (c.length=w.us.length)&&b9 (yU w c) 0 c.length
def en (c:List Int):Bool:=eE w&&sn w c
def kV (c:List Int)(x:Want):Bool:=decide (0<=c[x.u.toNat]!)&&pf x.s w.us[x.u.toNat]!.cands[c[x.u.toNat]!.toNat]!.v
def DY (c:List Int)(l:nX):Bool:=l.any (kV w c)
def nw {w:bR}(h:sn w c=true):c.length=w.us.length/\∀i,i<c.length->-1<=c[i]! /\c[i]! <(w.us[i]!.cands.length:Int):=by
 simp only[sn,aC,aV,bD,yU]at h;exact⟨h.1,λi hi=>h.2 i (Nat.zero_le _) hi⟩
def adu {w:bR}(h:¬(c.length:Int)=(w.us.length:Int)\/eE w=false):en w c=false:=by
 unfold en sn;rcases h with h|h
 .rw[bN ae];simp
 .rw[h];rfl
def Rc {w:bR}{i:Nat}(h:c[i]! < -1\/(w.us[i]!.cands.length:Int)<=c[i]!):yU w c i=false:=by
 unfold yU;rcases h with h|h
 .rw[bN ae];rfl
 .rw[bN (p:=c[i]! <_) ae];simp
def Lj {w:bR}{i:Nat}(h:¬c[i]! < -1/\¬(w.us[i]!.cands.length:Int)<=c[i]!):yU w c i=true:=by
 unfold yU;rw[bA ae,bA ae];rfl
def MetW (c:List Int)(x:Want):Prop:=(w.sm/\x.sm)/\(0<=x.u/\x.u<(w.us.length:Int))/\sn w c=true
def fP (c:List Int)(u:Nat)(l:List nX)(n:Nat):List wH:=(List.range n).flatMap λk=>if DY w c l[k]! =true then []else [⟨2,(u:Nat),(k:Nat)⟩]
def j6 (c:List Int)(u:Nat)(l:List Want)(n:Nat):List wH:=(List.range n).flatMap λk=>if kV w c l[k]! =true then [⟨3,(u:Nat),(k:Nat)⟩]else []
def aX (c:List Int)(u:Nat):eA:=w.us[u]!.cands[c[u]!.toNat]!
def A8 (c:List Int)(u:Nat):List wH:=fP w c u (aX w c u).needs (aX w c u).needs.length++j6 w c u (aX w c u).bars (aX w c u).bars.length
def gE (c:List Int)(n:Nat):List wH:=(List.range n).flatMap λu=>if c[u]! <0 then []else A8 w c u
def jf (c:List Int):List wH:=if en w c=false then []else gE w c c.length
section
variable {w:bR}{u:Nat}{l:List nX}{b:List Want}
def OW (h:DY w c l[n]! =true):fP w c u l (n+1)=fP w c u l n:=by simp only[fP,List.range_succ,List.flatMap_append,List.flatMap_cons,List.flatMap_nil,h];simp
def OV (h:DY w c l[n]! =false):fP w c u l (n+1)=fP w c u l n++[⟨2,(u:Nat),(n:Nat)⟩]:=by simp only[fP,List.range_succ,List.flatMap_append,List.flatMap_cons,List.flatMap_nil,h];simp
def N2 (h:kV w c b[n]! =true):j6 w c u b (n+1)=j6 w c u b n++[⟨3,(u:Nat),(n:Nat)⟩]:=by simp only[j6,List.range_succ,List.flatMap_append,List.flatMap_cons,List.flatMap_nil,h];simp
def N1 (h:kV w c b[n]! =false):j6 w c u b (n+1)=j6 w c u b n:=by simp only[j6,List.range_succ,List.flatMap_append,List.flatMap_cons,List.flatMap_nil,h];simp
def p0:∀n,(fP w c u l n).length<=n
 |0=>aN _
 |n+1=>by
  have:=p0 n;cases h:DY w c l[n]!
  .rw[OV h];simp;omega
  .rw[OW h];omega
def wQ:∀n,(j6 w c u b n).length<=n
 |0=>aN _
 |n+1=>by
  have:=wQ n;cases h:kV w c b[n]!
  .rw[N1 h];omega
  .rw[N2 h];simp;omega
def Qf (h:0<=c[n]!):gE w c (n+1)=gE w c n++A8 w c n:=by
 simp only[gE,List.range_succ,List.flatMap_append,List.flatMap_cons,List.flatMap_nil,ai (show ¬c[n]! <0 by omega),gF]
def Qe (h:c[n]! <0):gE w c (n+1)=gE w c n:=by simp only[gE,List.range_succ,List.flatMap_append,List.flatMap_cons,List.flatMap_nil,ak h,gF]
def aao (h:0<=c[n]!):(gE w c n++fP w c n (aX w c n).needs (aX w c n).needs.length)++j6 w c n (aX w c n).bars (aX w c n).bars.length=gE w c (n+1):=by
 rw[Qf h,A8,fF]
end
def OneP (c:List Int)(u:Nat):Prop:=(w.sm/\eE w=true)/\sn w c=true/\u<c.length/\0<=c[u]!
def BK {w:bR}{u:Nat}(h:OneP w c u):(c[u]!.toNat<w.us[u]!.cands.length/\c[u]! =((c[u]!.toNat:Nat):Int))/\((aX w c u).needs.length<=24/\(aX w c u).bars.length<=24)/\(∀r∈(aX w c u).needs,∀x∈r,MetW w c x)/\∀x∈(aX w c u).bars,MetW w c x:=by
 obtain⟨⟨h1,h2⟩,h3,h4,h5⟩:=h;obtain⟨h6,h7⟩:=nw h3;have h8:=h7 u h4;have hu:u<w.us.length:=ae;have hk:c[u]!.toNat<w.us[u]!.cands.length:=ae;have hin:=Ei h2 hu hk;have hs:=(h1 _ (aq hu)).2 _ (aq hk);have hl:(aX w c u).needs.length<=24/\(aX w c u).bars.length<=24:=by
  simp only[eE,aC,bD,lF,m6,mZ,aV]at h2;have:=(h2.2 u (Nat.zero_le _) hu).2 _ (Nat.zero_le _) hk;exact⟨this.1.2.1.1.1,this.1.2.1.1.2⟩
 exact⟨⟨hk,ae⟩,hl,λr hr x hx=>⟨⟨h1,hs.2.1 r hr x hx⟩,hin.1 r hr x hx,h3⟩,λx hx=>⟨⟨h1,hs.2.2 x hx⟩,hin.2 x hx,h3⟩⟩
def L5 {w:bR}{u:Nat}(h:OneP w c u):(A8 w c u).length<=48:=by
 obtain⟨_,⟨h1,h2⟩,_⟩:=BK h;have h3:=p0 (w:=w) (c:=c) (u:=u) (l:=(aX w c u).needs) (aX w c u).needs.length;have h4:=wQ (w:=w) (c:=c) (u:=u) (b:=(aX w c u).bars) (aX w c u).bars.length;simp only[A8,cu];omega
def El {w:bR}{c:List Int}(hm:w.sm)(h:en w c=true):∀n,n<=c.length->(gE w c n).length<=n*48
 |0,_=>Nat.zero_le _
 |n+1,hn=>by
  have h1:=El hm h n ae;simp only[en,aC]at h;by_cases hc:c[n]! <0
  .rw[Qe hc];omega
  .have:=L5 (w:=w) (c:=c) (u:=n) ⟨⟨hm,h.1⟩,h.2,ae,ae⟩;rw[Qf ae,cu];omega
def Ni {w:bR}{l:nX}:DY w c l=oK (λi=>kV w c l[i]!) 0 l.length:=by
 rw[Bool.eq_iff_iff,DY,List.any_eq_true,wN];constructor
 .rintro⟨x,hx,h⟩;obtain⟨i,hi,rfl⟩:=List.mem_iff_getElem.1 hx;exact⟨i,Nat.zero_le _,hi,by simpa[hi]using h⟩
 .rintro⟨i,_,hi,h⟩;exact⟨_,aq hi,h⟩
def WrgP (c:List Int):Prop:=w.sm/\0<=c[0]!
def RA {w:bR}{u:Nat}(hw:WrgP w c)(h:en w c=true)(hu:u<c.length)(h0:0<=c[u]!):OneP w c u:=by
 simp only[en,aC]at h;exact⟨⟨hw.1,h.1⟩,h.2,hu,h0⟩
def OS {w:bR}(h:en w c=true):1<=c.length/\c.length<=48:=by
 simp only[en,aC]at h;have h1:=nw h.2;simp only[eE,aC,aV]at h;omega
def BO {S:List Int}{i:Nat}(h:i<S.length)(v:Int):(S.map (D.int .i64)).set (0+i) (pA ((S.map (D.int .i64)).getD (0+i) .any) 1 1 0 (.int .i64 v))=(S.set i v).map (D.int .i64):=by
 rw[bX,getD_map (q:=D.int .i64) h,List.map_set];rfl
def BL {l:List kj}{v:ca}:sG l nm v 0=-1\/∃j:Nat,sG l nm v 0=(j:Int)/\j<l.length:=by
 unfold sG;rw[cR];cases h:l.findIdx? (Ly nm v)with
 |none=>exact .inl rfl
 |some k=>
  have:=(List.findIdx?_eq_some_iff_getElem.1 h).1;exact .inr ⟨k,aB,this⟩
def Fw {s:bM}{v:ca}:jR s nm v=-1\/∃j:Nat,jR s nm v=(j:Int)/\j<s.es.length:=by
 unfold jR;split
 .exact .inl rfl
 .exact BL
def oM (s:bM)(nm:au)(v:ca):kj×Bool:=if jR s nm v<0 then(default,false)else(s.es[(jR s nm v).toNat]!,true)
section
variable {shop:List bM}{c:eA}{x:dr}
theorem shl_a (h0:c.sh=-1)(h:¬x.shelf=[]):oC shop c x=12:=by grind [oC]
theorem shl_d (h0:¬c.sh=-1)(h:(c.sh<0\/(shop.length:Int)<=c.sh)\/¬shop[c.sh.toNat]!.name=x.shelf):oC shop c x=12:=by grind [oC]
theorem afG (h0:¬c.sh=-1)(h1:(¬c.sh<0/\¬(shop.length:Int)<=c.sh)/\shop[c.sh.toNat]!.name=x.shelf)(h:(oM shop[c.sh.toNat]! x.name x.v).2=false\/¬(oM shop[c.sh.toNat]! x.name x.v).1.sum=x.sum):oC shop c x=13:=by grind [oC,oM]
theorem shl_f (h0:¬c.sh=-1)(h1:(¬c.sh<0/\¬(shop.length:Int)<=c.sh)/\shop[c.sh.toNat]!.name=x.shelf)(h:(oM shop[c.sh.toNat]! x.name x.v).2=true/\(oM shop[c.sh.toNat]! x.name x.v).1.sum=x.sum):oC shop c x=0:=by grind [oC,oM]
end
def Nw {us:List cJ}{a b:au}:gw us a b=-1\/∃j:Nat,gw us a b=(j:Int)/\1<=j/\j<us.length:=by
 unfold gw;rcases e7 (f:=nE a b) (l:=us.drop 1) (k:=1)with⟨h,_⟩|⟨j,h,h2,_⟩
 .exact .inl h
 .rw[ix]at h2;exact .inr ⟨1+j,h,ae,ae⟩
def Mh {us:List cJ}{u:Int}{v:ca}{t:Bool}:mA us u v t=-1\/∃j k:Nat,u=(j:Int)/\mA us u v t=(k:Int)/\k<us[j]!.cands.length:=by
 unfold mA;split
 .exact .inl rfl
 .rcases e7 (f:=Vf v t) (l:=us[u.toNat]!.cands) (k:=0)with⟨h,_⟩|⟨j,h,h2,_⟩
  .exact .inl h
  .exact .inr ⟨u.toNat,j,ae,jc,h2⟩
def Lo {us:List cJ}{x:dr}:∀{l:List au}{c:List Int},(vN us x l c).2.length=c.length
 |[],c=>rfl
 |f::r,c=>by
  rw[vN];split
  .rfl
  .rw[Lo,List.length_set]
def xk {us:List cJ}{x:dr}{l:List au}{i:Nat}(h:i<l.length):vN us x (l.drop i) c=if mA us (gw us x.name l[i]!) x.v false<0 then(11,c)else vN us x (l.drop (i+1)) (c.set (gw us x.name l[i]!).toNat (mA us (gw us x.name l[i]!) x.v false)):=by
 rw[fk h,vN,show l[i]! =l[i]by simp[h]]
def Lm {us:List cJ}{x:dr}{l:List au}{i:Nat}(h:l.length<=i):vN us x (l.drop i) c=(0,c):=by
 rw[ki h,vN]
def YX {shop:List bM}{us:List cJ}{x:dr}:(mT shop us x c).2.length=c.length:=by
 unfold mT;split
 .rfl
 .split
  .rfl
  .rw[Lo,List.length_set]
def Rr {shop:List bM}{us:List cJ}{l:List dr}{i:Nat}(h:i<l.length):vT shop us (l.drop i) c=if(mT shop us l[i]! c).1≠0 then([],(mT shop us l[i]! c).1,l[i]!.name)else vT shop us (l.drop (i+1)) (mT shop us l[i]! c).2:=by
 rw[fk h,vT,show l[i]! =l[i]by simp[h]]
def XH {shop:List bM}{us:List cJ}{l:List dr}{i:Nat}(h:l.length<=i):vT shop us (l.drop i) c=(c,0,[]):=by
 rw[ki h,vT]
def LinP (w:bR)(x:dr)(c:List Int):Prop:=(jl shop/\w.sm/\x.v.sm)/\c.length=w.us.length
section
variable {Y:Ctx}{draw:Bool}{r:List GI}{env rs:List ba}{nx:Nat}{m:List (Nat×bn)}{K:List ba->St->Prop}{g:Option (Nat×Bool)}{f:Bool}
def Y5 {x:Src}{ng:Bool}{d:D}(h:∀b,nlB d b->ay Y draw r env (⟨true,.bool (bif ng then !b else b)⟩::rs) nx m K)(hg:GF rs g true:=by first|exact rfl|exact⟨_,_,rfl,rfl⟩)(hx:bZ env rs x=⟨true,d⟩:=by exact rfl)(hs:slB d:=by exact trivial):ay Y draw (⟨.isNl x ng,g⟩::r) env rs nx m K:=by
 unfold ay;show yV rs.reverse g/\(flag rs.reverse g=true->(Src.ev env rs.reverse x).ok=true/\slB (Src.ev env rs.reverse x).d/\∀b,nlB (Src.ev env rs.reverse x).d b->_)/\(flag rs.reverse g=false->_);obtain⟨hg1,hg2⟩:=hg.flag;rw[oQ,hx];refine⟨hg2,λ_=>⟨rfl,hs,λb hb=>?_⟩,λhh=>by rw[hg1]at hh;cases hh⟩;have:=h b hb;unfold ay at this;simpa using this
end
section
variable {Y:Ctx}{draw:Bool}{r:List GI}{env rs:List ba}{nx:Nat}{m:List (Nat×bn)}{K:List ba->St->Prop}{g:Option (Nat×Bool)}{f:Bool}
def r_mkM {L:Nat}(h:ay Y draw r env (⟨f,.fn 5000000 [.it L]⟩::rs) nx m2 K)(hg:GF rs g f:=by first|exact rfl|exact⟨_,_,rfl,rfl⟩)(hL:nx+rs.length=L:=by simp only[bE,b8,Nat.reduceAdd];exact rfl)(hm:cX m L (.mpb [])=m2:=by simp only[cX,cT,Nat.reduceEqDiff,a8,aW,Nat.reduceAdd,reduceCtorEq];exact rfl):ay Y draw (⟨.mkM,g⟩::r) env rs nx m K:=
 gB rfl hg _ (λ_=>trivial) (λhf=>by simp only[ax.val,hL]) _ (by simp only[ax.bU,hL];exact hm) (λ_=>h)
def r_upM {x y z:Src}{l:Nat}{k:D}{q:IntKind}{kvs:List D}(kvs2:List D)(h:ay Y draw r env (⟨true,.any⟩::rs) nx m2 K)(hx:bZ env rs x=⟨true,.fn 5000000 [.it l]⟩:=by exact rfl)(hy:bZ env rs y=⟨true,k⟩:=by exact rfl)(hz:bZ env rs z=⟨true,.int q a⟩:=by exact rfl)(hl:look m l=some (.mpb kvs):=by exact rfl)(hk:vQ k=true:=by exact rfl)(hb:xA kvs=true)(he:Ah k (.int q a) kvs=kvs2)(hm:cX m l (.mpb kvs2)=m2:=by simp only[cX,cT,Nat.reduceEqDiff,a8,aW,Nat.reduceAdd,reduceCtorEq];exact rfl):ay Y draw (⟨.upM x y z,none⟩::r) env rs nx m K:=
 px rfl _ (by simp only[ax.eG,hx,hy,hz,mpO,hl];exact⟨trivial,trivial,trivial,⟨trivial,hb⟩,hk,q,a,rfl⟩) (by simp only[ax.val]) _ (by simp only[ax.bU,hx,hy,hz,T4,hl,he];exact hm) (λ_=>h)
def afA {x y:Src}{z:D}{fx fy:Bool}{l:Nat}{k:D}{kvs:List D}(v:D)(h:ay Y draw r env (⟨f,v⟩::rs) nx m K)(hg:GF rs g f:=by first|exact rfl|exact⟨_,_,rfl,rfl⟩)(hx:bZ env rs x=⟨fx,.fn 5000000 [.it l]⟩:=by exact rfl)(hy:bZ env rs y=⟨fy,k⟩:=by exact rfl)(kx:f=true->fx=true:=by first|exact λ_=>rfl|exact λh=>h|(intro h;simp_all))(ky:f=true->fy=true:=by first|exact λ_=>rfl|exact λh=>h|(intro h;simp_all))(hl:look m l=some (.mpb kvs):=by exact rfl)(hk:vQ k=true:=by exact rfl)(hb:xA kvs=true)(hv:(match NO k kvs with|some v=>D.tup [v,.bool true]|none=>D.tup [z,.bool false])=v):ay Y draw (⟨.lkM z x y,g⟩::r) env rs nx m K:=
 gB rfl hg _ (λhf=>by simp only[ax.eG,hx,hy,mpO,hl];exact⟨kx hf,ky hf,⟨trivial,hb⟩,hk⟩) (λhf=>by simp only[ax.val,hx,hy,T4,hl];exact hv) m (by simp only[ax.bU]) (λ_=>h)
end
def bp.mp {lo c:Nat}{m r:List (Nat×bn)}{l':Nat}{s s':List D}(l:Nat)(hl:mN lo σ l=some l')(hm:look m l=some (.mpb s))(hs:s'=s)(h:bp lo c σ m r):bp lo c σ m ((l',.mpb s')::r):=
 ⟨.inl ⟨l,_,hl,hm,hs⟩,h⟩
section
variable {shop:List bM}{us:List cJ}{x:dr}
def R4 (h:mA us (gw us x.name []) x.v true<0):mT shop us x c=(9,c):=by rw[mT,ak h]
def FX (hj:gw us x.name []=(j:Nat))(hk:mA us (gw us x.name []) x.v true=(k:Nat))(h:¬oC shop us[j]!.cands[k]! x=0):mT shop us x c=(oC shop us[j]!.cands[k]! x,c):=by
 rw[mT,ai ae,hk,hj,Int.toNat_natCast,Int.toNat_natCast,ak h]
def put_c (hj:gw us x.name []=(j:Nat))(hk:mA us (gw us x.name []) x.v true=(k:Nat))(h:oC shop us[j]!.cands[k]! x=0):mT shop us x c=vN us x x.feats (c.set j k):=by
 rw[mT,ai ae,hk,hj,Int.toNat_natCast,Int.toNat_natCast,ai jc]
end
def G6 (us:List cJ)(x:dr)(c:List Int):Nat->List Int
 |0=>c
 |i+1=>(G6 us x c i).set (gw us x.name x.feats[i]!).toNat (mA us (gw us x.name x.feats[i]!) x.v false)
def Ll {us:List cJ}{x:dr}{c:List Int}:∀i,(G6 us x c i).length=c.length
 |0=>rfl
 |i+1=>by rw[G6,List.length_set,Ll]
def wz (a b:au):D:=.agg [.str a,.str b]
def yt (a b:au):Int×Bool:=(if gw us a b<0 then 0 else gw us a b,decide (0<=gw us a b))
def VJ (kvs:List D):Prop:=xA kvs=true/\∀a b,(match NO (wz a b) kvs with|some v=>D.tup [v,.bool true]|none=>D.tup [.int .i64 0,.bool false])=.tup [.int .i64 (yt us a b).1,.bool (yt us a b).2]
def Iv {us:List cJ}{a b:au}(h:(yt us a b).2=false):gw us a b<0:=by simpa[yt]using h
def aag {us:List cJ}{a b:au}(h:(yt us a b).2=true):∃j:Nat,gw us a b=(j:Int)/\(yt us a b).1=(j:Int)/\1<=j/\j<us.length:=by
 have h0:0<=gw us a b:=by simpa[yt]using h
 rcases Nw (us:=us) (a:=a) (b:=b)with h1|⟨j,h1,h2,h3⟩
 .omega
 .exact⟨j,h1,by simp only[yt];rw[ai ae,h1],h2,h3⟩
def YG {us:List cJ}{u:Int}{v:ca}{t:Bool}(h:u=(j:Nat)):mA us u v t=gM (Vf v t) us[j]!.cands 0:=by
 rw[mA,ai ae,h,Int.toNat_natCast]
def afy {us:List cJ}{u:Int}{v:ca}{t:Bool}(h:u=(j:Nat))(h2:¬mA us u v t<0):∃k:Nat,mA us u v t=(k:Int)/\k<us[j]!.cands.length:=by
 rcases Mh (us:=us) (u:=u) (v:=v) (t:=t)with h3|⟨i,k,h3,h4,h5⟩
 .omega
 .have:i=j:=ae;exact⟨k,h4,this▸h5⟩
def HI {us:List cJ}{u:Int}{v:ca}{t:Bool}(h:u<0):mA us u v t<0:=by rw[mA,ak h];decide
def P5 (c:eA)(x:dr):Int:=if c.sh=-1 then 0 else shop[c.sh.toNat]!.es[(jR shop[c.sh.toNat]! x.name x.v).toNat]!.sum
def VQ (c:eA)(x:dr):Prop:=oC shop c x=if P5 shop c x=x.sum then 0 else 13
section
variable {shop:List bM}{c:eA}{x:dr}
def sum_a (h:c.sh=-1/\x.shelf=[]):VQ shop c x/\P5 shop c x=0:=by
 obtain⟨h1,h2⟩:=h;unfold VQ oC P5;rw[ak h1,ai (by simpa using h2),ak h1];refine⟨?_,rfl⟩;by_cases h3:x.sum=0
 .rw[ai (by simpa using h3),ak h3.symm]
 .rw[ak h3,ai (λh=>h3 h.symm)]
def P6 (h:¬c.sh=-1\/¬x.shelf=[])(h2:(c.sh<0\/(shop.length:Int)<=c.sh)\/¬shop[c.sh.toNat]!.name=x.shelf):oC shop c x=12:=by
 by_cases h0:c.sh=-1
 .exact shl_a h0 (h.resolve_left (by simpa using h0))
 .exact shl_d h0 h2
def P7 (h2:(¬c.sh<0/\¬(shop.length:Int)<=c.sh)/\shop[c.sh.toNat]!.name=x.shelf)(h3:jR shop[c.sh.toNat]! x.name x.v<0):oC shop c x=13:=
 afG ae h2 (.inl (by rw[oM,ak h3]))
def sum_c (h2:(¬c.sh<0/\¬(shop.length:Int)<=c.sh)/\shop[c.sh.toNat]!.name=x.shelf)(h3:¬jR shop[c.sh.toNat]! x.name x.v<0):VQ shop c x/\P5 shop c x=shop[c.sh.toNat]!.es[(jR shop[c.sh.toNat]! x.name x.v).toNat]!.sum:=by
 have h4:P5 shop c x=shop[c.sh.toNat]!.es[(jR shop[c.sh.toNat]! x.name x.v).toNat]!.sum:=by rw[P5,ai ae]
 have h5:oM shop[c.sh.toNat]! x.name x.v=(shop[c.sh.toNat]!.es[(jR shop[c.sh.toNat]! x.name x.v).toNat]!,true):=by rw[oM,ai h3]
 refine⟨?_,h4⟩;unfold VQ;rw[h4];split
 .rename_i h6;exact shl_f ae h2 (by rw[h5];exact⟨rfl,h6⟩)
 .rename_i h6;exact afG ae h2 (by rw[h5];exact .inr h6)
end
def W5 (l k:Nat)(es:List Abs.D)(c:List Int):lu l k es (c.map (D.int .i64))=c.map (D.int .i64):=jM l k es _ (bQ (λ_=>rfl) _)
def dr.fz (l k:Nat)(es:List Abs.D)(c:dr):iz l k es c.D=c.D:=gA l k es _ (by simp only[dr.D,D.aT,aM,gG])
def Xr (a b:di):di.D a=di.D b↔a=b:=by cases a;cases b;simp[di.D,Xo]
def Ov (a b:List di):a.map di.D=b.map di.D↔a=b:=kU Xr a b
def Xk (a b:bw):bw.D a=bw.D b↔a=b:=by cases a;cases b;simp[bw.D,Ov]
def CG (a b:List bw):a.map bw.D=b.map bw.D↔a=b:=kU Xk a b
def iBar (a b:mM):mM.D a=mM.D b↔a=b:=by cases a;cases b;simp[mM.D]
def Lt (a b:List mM):a.map mM.D=b.map mM.D↔a=b:=kU iBar a b
def Xg (a b:cn):cn.D a=cn.D b↔a=b:=by cases a;cases b;simp[cn.D,Xo]
def CF (a b:List cn):a.map cn.D=b.map cn.D↔a=b:=kU Xg a b
def iRec (a b:Rec):Rec.D a=Rec.D b↔a=b:=by
 obtain⟨n,⟨v1,v2,v3,v4,v5⟩,x,y,z⟩:=a;obtain⟨n',⟨w1,w2,w3,w4,w5⟩,x',y',z'⟩:=b;simp[Rec.D,CG,Lt,CF,and_assoc]
def iEtr (a b:kj):kj.D a=kj.D b↔a=b:=by
 obtain⟨⟨n,⟨v1,v2,v3,v4,v5⟩,x,y,z⟩,s,o⟩:=a;obtain⟨⟨n',⟨w1,w2,w3,w4,w5⟩,x',y',z'⟩,s',o'⟩:=b;simp[kj.D,CG,Lt,CF,and_assoc]
def Xf (a b:List kj):a.map kj.D=b.map kj.D↔a=b:=kU iEtr a b
def iShf (a b:bM):bM.D a=bM.D b↔a=b:=by cases a;cases b;simp[bM.D,Xf]
def Xm (a b:List bM):a.map bM.D=b.map bM.D↔a=b:=kU iShf a b
def iEnv (a b:Env):Env.D a=Env.D b↔a=b:=by cases a;cases b;simp[Env.D]
def iLkd (a b:dr):dr.D a=dr.D b↔a=b:=by
 obtain⟨n,⟨v1,v2,v3,v4,v5⟩,x,y,z⟩:=a;obtain⟨n',⟨w1,w2,w3,w4,w5⟩,x',y',z'⟩:=b;simp[dr.D,Xo,and_assoc]
def Xj (a b:List dr):a.map dr.D=b.map dr.D↔a=b:=kU iLkd a b
def iLck (a b:kD):kD.D a=kD.D b↔a=b:=by
 obtain⟨⟨a1,a2,a3⟩,l⟩:=a;obtain⟨⟨b1,b2,b3⟩,k⟩:=b;simp[kD.D,Xj,and_assoc]
def afm (a b:Bool):((bif a then 690 else 691)=(bif b then 690 else 691:Nat))↔a=b:=by cases a<;>cases b<;>simp
def Cb (h:A (λd ds v s=>A λd' ds' v' s'=>d'=d->ds'=ds->v=v'/\s=s'):=by
 (repeat' first|apply And.intro|intro _)
 all_goals rename_i e' e
 all_goals (try simp only[te,D.str.injEq,D.int.injEq,D.bool.injEq,D.sl.injEq,D.ref.injEq,D.agg.injEq,D.fn.injEq,Xo,TM,iByt,iVer,Xr,Ov,Xk,CG,iBar,Lt,Xg,CF,iRec,Xf,iEtr,iShf,Xm,iEnv,iLkd,Xj,iLck,iCut,afi,Xn,CH,iSet,Xq,Ha,Xs,Ox,iCnd,Xe,iUnt,Xp,iWld,iKey,iGs,afm,iU8,pD,iNat,dh,dG]at e e')
 all_goals first|rfl|(simp only[e,e'];done)|simp_all):yG (og A):=aco h
structure Ask where
 allow:List Int
 order:List (List Int)
 deriving Inhabited
def jS (l:List Int):D:=.sl 1 (l.map (D.int .i64))
def Ask.D (a:Ask):D:=.agg [.sl 1 (a.allow.map (D.int .i64)),.sl 1 (a.order.map jS)]
def O2:Option (List Int)->D
 |none=>.aL
 |some c=>.sl 1 (c.map (D.int .i64))
def wJ (m:kn):Prop:=(0<m.needs.length/\m.needs.length<=48/\m.bars.length=m.needs.length/\m.full.length=m.needs.length)/\∀u,u<m.needs.length->(m.bars[u]!.length=m.needs[u]!.length/\m.needs[u]!.length<=16)/\
 (∀c∈m.needs[u]!,∀r∈c,r.length<=1000/\∀x∈r,0<=x.u/\x.u<m.needs.length)/\∀r∈m.bars[u]!,∀x∈r,0<=x.u/\x.u<m.needs.length
def KA (m:kn)(c:List Int):Prop:=c.length=m.needs.length/\∀u,u<m.needs.length->-1<=c[u]! /\c[u]! <m.needs[u]!.length
def Lg {m:kn}(hm:wJ m)(hc:KA m c):FineP m c:=by
 obtain⟨h1,h2⟩:=hm;have hcl:=hc.1;refine⟨ae,λu hu h0=>?_⟩;have hun:u<m.needs.length:=ae;have hcu:=hc.2 u hun;obtain⟨h3,h4,h5⟩:=h2 u hun;have hk:c[u]!.toNat<m.needs[u]!.length:=ae;have hM:∀x:ea,0<=x.u/\x.u<m.needs.length->KL c x:=λx hx=>by
  have a:=hc.2 x.u.toNat ae;have b:=(h2 x.u.toNat ae).1;exact⟨ae,ae⟩
 exact⟨⟨hk,ae⟩,λr hr x hx=>hM x ((h4 _ (aq hk) r hr).2 x hx),λx hx=>hM x (h5 _ (aq ae) x hx)⟩
def vE (m:kn)(c:List Int)(u:Nat):Bool:=decide (c[u]! <0) ||!kr c m.bars[u]![c[u]!.toNat]!
def yM (m:kn)(c:List Int):Bool:=b9 (vE m c) 0 c.length
def Ii (m:kn)(c:List Int)(u:Nat):Nat:=mP (λk=>kr c m.needs[u]![c[u]!.toNat]![k]!) m.needs[u]![c[u]!.toNat]!.length 0
def xM (m:kn)(c:List Int)(u:Nat):Bool:=decide (c[u]! <0) ||decide (Ii m c u=m.needs[u]![c[u]!.toNat]!.length)
def na (m:kn)(c:List Int):Nat:=mP (xM m c) c.length 0
def ef (m:kn)(c:List Int):Int×Int:=if c[0]! <0 then(0,-1)else if na m c<c.length then(((na m c:Nat):Int),((Ii m c (na m c):Nat):Int))else(-1,-1)
def QM {f:Nat->Bool}:∀k i,i<=mP f k i/\mP f k i<=i+k
 |0,i=>by simp[mP]
 |k+1,i=>by
  have:=QM (f:=f) k (i+1);rw[mP];split<;>omega
def KW {f:Nat->Bool}:∀k i,mP f k i<i+k->f (mP f k i)=false
 |0,i,h=>by simp[mP]at h
 |k+1,i,h=>by
  rw[mP]at h⊢;split
  .rename_i e;rw[ak e]at h;exact KW k (i+1) ae
  .rename_i e;simpa using e
def acM {m:kn}(h1:yM m c=true)(h2:(ef m c).1<0):Cj m c=true:=by
 unfold ef at h2;split at h2
 .exact absurd h2 aU
 .rename_i h0;split at h2
  .exact absurd h2 mL
  .rename_i hi;unfold Cj;rw[bA (show 0<=c[0]! by omega),eu,bD];intro u _ hu;unfold yM at h1;rw[bD]at h1;have e1:=h1 u (Nat.zero_le _) hu;have e2:=B4 c.length 0 (by rw[bX];exact hi) u (Nat.zero_le _) ae;unfold vE at e1;unfold xM at e2;unfold WW;by_cases hc:c[u]! <0
   .rw[bA hc];rfl
   .rw[bN hc,Bool.false_or]at e1 e2⊢;rw[e1,gG,bD];intro k _ hk;rw[aV]at e2;have e3:=B4 (f:=λk=>kr c m.needs[u]![c[u]!.toNat]![k]!) m.needs[u]![c[u]!.toNat]!.length 0 (by unfold Ii at e2;omega) k (Nat.zero_le _) ae;exact e3
def offB (l:List ea)(o:ea):Bool:=oK (λi=>decide (l[i]! =o)) 0 l.length
def O4 (mask u p:Int)(out:List ea):List ea:=if(decide (GX mask (2^(p.toNat+1))≠0)&& !offB out ⟨u,p⟩)=true then out++[⟨u,p⟩]else out
def j9 (mask u:Int)(ts:List Int):Nat->List ea->List ea
 |0,out=>out
 |i+1,out=>O4 mask u ts[i]! (j9 mask u ts i out)
def bG (m:kn)(c:List Int):List ea:=if 0<=(ef m c).2 then m.needs[(ef m c).1.toNat]![c[(ef m c).1.toNat]!.toNat]![(ef m c).2.toNat]! else [⟨(ef m c).1,m.full[(ef m c).1.toNat]!⟩]
def C7 (mask u:Int)(ts:List Int):∀i out,(j9 mask u ts i out).length<=out.length+i
 |0,out=>aN _
 |i+1,out=>by
  have:=C7 mask u ts i out;rw[j9];unfold O4;split
  .rw[cu,List.length_singleton];omega
  .omega
def VL (m:kn)(c:List Int)(o:ea):Prop:=(0<=o.u/\o.u<m.needs.length)/\c[o.u.toNat]! <0/\0<=o.m/\o.m<m.needs[o.u.toNat]!.length
def RW {m:kn}(hc:KA m c)(h0:0<m.needs.length)(h:¬(ef m c).1<0):(0<=(ef m c).1/\(ef m c).1<c.length)/\(0<=(ef m c).2->0<=c[(ef m c).1.toNat]! /\(ef m c).2<m.needs[(ef m c).1.toNat]![c[(ef m c).1.toNat]!.toNat]!.length):=by
 have hl:=hc.1;unfold ef at*
 split
 .exact⟨⟨aU,mL⟩,λh=>absurd h aU⟩
 .rename_i h1;rw[ai h1]at h;split
  .rename_i h2;have h3:=KW (f:=xM m c) c.length 0 (by rw[bX];exact h2);have h4:=(QM (f:=λk=>kr c m.needs[na m c]![c[na m c]!.toNat]![k]!) m.needs[na m c]![c[na m c]!.toNat]!.length 0).2;rw[show mP (xM m c) c.length 0=na m c from rfl]at h3;rw[bX,show mP (λk=>kr c m.needs[na m c]![c[na m c]!.toNat]![k]!) m.needs[na m c]![c[na m c]!.toNat]!.length 0=Ii m c (na m c)from rfl]at h4;unfold xM at h3;rw[eF,cy,cy]at h3;dsimp only;rw[Int.toNat_natCast];exact⟨⟨ae,ae⟩,λ_=>⟨ae,ae⟩⟩
  .rename_i h2;rw[ai h2]at h;exact absurd (by decide:((-1:Int),(-1:Int)).1<0) h
def NC {m:kn}(hm:wJ m)(hc:KA m c)(h:¬(ef m c).1<0):(∀x∈bG m c,0<=x.u/\x.u<m.needs.length)/\(bG m c).length<=1000:=by
 obtain⟨⟨h0,_⟩,hM⟩:=hm;obtain⟨h1,h2⟩:=RW hc h0 h;have hl:=hc.1;unfold bG;split
 .rename_i h3;obtain⟨h4,h5⟩:=h2 h3;have hu:=hc.2 (ef m c).1.toNat ae;have h6:=(hM (ef m c).1.toNat ae).2.1 _ (aq (show c[(ef m c).1.toNat]!.toNat<m.needs[(ef m c).1.toNat]!.length by omega)) _ (aq (show(ef m c).2.toNat<m.needs[(ef m c).1.toNat]![c[(ef m c).1.toNat]!.toNat]!.length by omega));exact⟨h6.2,h6.1⟩
 .refine⟨λx hx=>?_,aB⟩;obtain rfl:=aD.1 hx;exact⟨mL,mL⟩
def iS (f:ea->Option (List Int)):List ea->Option (List Int)
 |[]=>none
 |o::r=>match f o with
  |some c=>some c
  |none=>iS f r
def EZ (c:List Int):Nat:=c.countP λx=>decide (x<0)
def xT (c:List Int)(o:ea):List Int:=c.set o.u.toNat o.m
def LY:∀{c:List Int}{i:Nat}{v:Int},i<c.length->c[i]! <0->0<=v->EZ (c.set i v)+1=EZ c
 |[],i,v,h,_,_=>by simp at h
 |x::r,0,v,_,h1,h2=>by
  have h1:x<0:=h1;simp[EZ,List.countP_cons,h1,show ¬v<0 by omega]
 |x::r,i+1,v,h,h1,h2=>by
  have:=LY (c:=r) (i:=i) (v:=v) rp (by simpa using h1) h2;simp only[EZ,List.set_cons_succ,List.countP_cons]at this⊢;omega
def HK {m:kn}{o:ea}(hc:KA m c)(ho:VL m c o):KA m (xT c o)/\EZ (xT c o)+1=EZ c:=by
 obtain⟨h1,h2,h3,h4⟩:=ho;have hl:=hc.1;refine⟨⟨by unfold xT;rw[List.length_set];exact hl,λu hu=>?_⟩,LY ae h2 h3⟩;unfold xT;by_cases e:o.u.toNat=u
 .subst e;rw[List.getElem!_eq_getElem?_getD,List.getElem?_set_self ae];exact⟨by dsimp only[Option.getD_some];omega,h4⟩
 .rw[List.getElem!_eq_getElem?_getD,List.getElem?_set_ne e,<-List.getElem!_eq_getElem?_getD];exact hc.2 u hu
def xf {f g:ea->Option (List Int)}:∀{l:List ea},(∀o∈l,f o=g o)->iS f l=iS g l
 |[],_=>rfl
 |o::r,h=>by
  rw[iS,iS,h o (.head _),xf (l:=r) λo ho=>h o (.tail _ ho)]
def z6 {f:ea->Option (List Int)}{d:List Int}:∀{l:List ea},iS f l=some d->∃o∈l,f o=some d
 |[],h=>by cases h
 |o::r,h=>by
  rw[iS]at h;split at h
  .rename_i c e;obtain rfl:=a7 h;exact⟨o,.head _,e⟩
  .obtain⟨o',h1,h2⟩:=z6 h;exact⟨o',.tail _ h1,h2⟩
def ow (n:Nat):List Int:=List.replicate n (-1)
def maskP {w:bR}(hw:eE w=true)(hs:∀x∈w.us,x.cands.length<=16)(hf:Few w.us):wJ (dz w.us):=by
 have hpos:0<w.us.length/\w.us.length<=48:=by
  unfold eE at hw;simp only[aC,aV]at hw;omega
 have hn:(dz w.us).needs.length=w.us.length:=by simp[dz,eC]
 have hb:(dz w.us).bars.length=w.us.length:=by simp[dz,jD]
 have hfu:(dz w.us).full.length=w.us.length:=by simp[dz,iT]
 refine⟨⟨ae,ae,ae,ae⟩,λu hu=>?_⟩;rw[hn]at hu⊢;have e1:(dz w.us).needs[u]! =eP w.us w.us[u]!.cands:=by unfold dz eC;dsimp only;rw[List.take_length,fK hu]
 have e2:(dz w.us).bars[u]! =jE w.us w.us[u]!.cands:=by unfold dz jD;dsimp only;rw[List.take_length,fK hu]
 have h16:=hs _ (aq hu);rw[e1,e2];refine⟨⟨by simp[eP,jE],by simpa[eP]using h16⟩,λc hc r hr=>?_,λr hr x hx=>?_⟩
 .unfold eP at hc;obtain⟨cd,h1,rfl⟩:=cg.1 hc;obtain⟨k,hk,rfl⟩:=List.mem_iff_getElem.1 h1;unfold kZ at hr;obtain⟨r0,h2,rfl⟩:=cg.1 hr;have hfw:=(hf _ (aq hu) _ h1).2.2 r0 h2;refine⟨by simpa[eD]using hfw,λx hx=>?_⟩;unfold eD at hx;obtain⟨y,h3,rfl⟩:=cg.1 hx;exact(Ei hw hu (k:=k) hk).1 r0 (by rw[getElem!_pos w.us[u]!.cands k hk];exact h2) y h3
 .unfold jE at hr;obtain⟨cd,h1,rfl⟩:=cg.1 hr;obtain⟨k,hk,rfl⟩:=List.mem_iff_getElem.1 h1;unfold eD at hx;obtain⟨y,h3,rfl⟩:=cg.1 hx;exact(Ei hw hu (k:=k) hk).2 y (by rw[getElem!_pos w.us[u]!.cands k hk];exact h3)
def sE:KA (dz us) (ow us.length):=by
 refine⟨by simp[ow,dz,eC],λu hu=>?_⟩;have hul:u<us.length:=by simpa[dz,eC]using hu
 rw[show(ow us.length)[u]! =-1 by unfold ow;simp[hul]];exact⟨aU,ae⟩
def QZ {us:List cJ}(h:KA (dz us) c):ChP us c:=by
 have hn:(dz us).needs.length=us.length:=by simp[dz,eC]
 refine⟨by rw[h.1,hn],λu hu=>?_⟩;have h1:=h.2 u ae;have e1:(dz us).needs[u]!.length=us[u]!.cands.length:=by unfold dz eC;dsimp only;rw[List.take_length,fK hu];simp[eP]
 rw[e1]at h1;exact h1
def RQ:∀o:Option (List Int),slB (O2 o)
 |none=>trivial
 |some _=>trivial
def Om {f:ea->Option (List Int)}{l:List ea}{i:Nat}{d:List Int}(hi:i<l.length)(h:f l[i]! =some d):iS f (l.drop i)=some d:=by
 rw[fk hi,iS,<-getElem!_pos l i hi,h]
def Lh {f:ea->Option (List Int)}{l:List ea}{i:Nat}(hi:i<l.length)(h:f l[i]! =none):iS f (l.drop i)=iS f (l.drop (i+1)):=by
 rw[fk hi,iS,<-getElem!_pos l i hi,h]
def Ol {f:ea->Option (List Int)}{l:List ea}{i:Nat}(hi:l.length<=i):iS f (l.drop i)=none:=by
 rw[ki hi,iS]
def T7 (i:Nat):ow i++[-1]=ow (i+1):=by unfold ow;rw[List.replicate_succ']
def T8 (i:Nat):(ow i).length=i:=by unfold ow;exact List.length_replicate
def negD (ds:List D):Nat:=match ds.getD 2 .any with
 | .sl _ es=>es.countP λd=>match d with
  | .int _ x=>decide (x<0)
  |_=>false
 |_=>0
def RJ {a b:D}:negD [a,b,.sl 1 (c.map (D.int .i64))]=EZ c:=by
 show(c.map (D.int .i64)).countP _=_;rw[List.countP_map];rfl
def iTr (a b:List ea):Iq a=Iq b↔a=b:=by simp[Iq,afn]
def iTrL (a b:List (List ea)):a.map Iq=b.map Iq↔a=b:=kU iTr a b
def iTrs (a b:List (List ea)):oN a=oN b↔a=b:=by simp[oN,iTrL]
def afo (a b:List (List (List ea))):a.map oN=b.map oN↔a=b:=kU iTrs a b
def iTrss (a b:List (List (List ea))):qi a=qi b↔a=b:=by simp[qi,afo]
def ai3 (a b:List (List (List (List ea)))):a.map qi=b.map qi↔a=b:=kU iTrss a b
def iMsk (a b:kn):kn.D a=kn.D b↔a=b:=by
 obtain⟨x,y,z⟩:=a;obtain⟨x',y',z'⟩:=b;simp[kn.D,TM,ai3,afo]
def Xi (a b:List (List Int)):a.map jS=b.map jS↔a=b:=kU (λx y=>by simp[jS,TM]) a b
def iAsk (a b:Ask):Ask.D a=Ask.D b↔a=b:=by
 obtain⟨x,y⟩:=a;obtain⟨x',y'⟩:=b;simp[Ask.D,TM,Xi]
def ET (s:au):Int:=if gM (λt=>decide (t=s)) l 0<0 then 0 else gM (λt=>decide (t=s)) l 0
def cW (own:au):au×Gs:=if cI[(g.val 4).toNat]! =own then(cI[((g.aS.val 3+1+ET cI own)%4).toNat]!,g.aS.aS)else(cI[(g.val 4).toNat]!,g.aS)
def dE (own:au):di×Gs:=(⟨(cW g own).1,kf[((cW g own).2.val 8).toNat]!,[],decide (0<(cW g own).2.aS.val 3)⟩,(cW g own).2.aS.aS)
def ib (own:au):List di×Gs:=
 if(dE g own).2.val 6=0 then([(dE g own).1,(dE (dE g own).2.aS own).1],(dE (dE g own).2.aS own).2)
 else if(dE g own).2.val 6=1 then([{(dE g own).1 with feats:=[fW]}],(dE g own).2.aS)else([(dE g own).1],(dE g own).2.aS)
def osY:au:=[111,115,32,61,32,108,105,110,117,120]
def osN:au:=[111,115,32,33,61,32,108,105,110,117,120]
def jH:au×Gs:=(if g.val 8=0 then osY else if g.val 8=1 then osN else [],g.aS)
def HE:au×Gs:=(if g.val 5=0 then [111]else [],g.aS)
def mz (own:au):bw×Gs:=(⟨(ib g own).1,(jH (ib g own).2).1,(HE (jH (ib g own).2).2).1⟩,(HE (jH (ib g own).2).2).2)
def Uf (l:List bw):Bool:=l.any λn=>decide (n.option=[111])
def iA:List bw->Gs->Option au×Gs
 |[],g=>(none,g)
 |n::r,g=>if n.any.length=1 then(if g.val 3=0 then(some n.any[0]!.name,g.aS)else iA r g.aS)else iA r g
def ofG (l:List bw)(g:Gs):List au×Gs:=((if Uf l=true then [[63,111]]else [])++(match(iA l g).1 with|some s=>[s++[47,102]]|none=>[]),(iA l g).2)
def m7 (l:List bw):cn×Gs:=(⟨[102],(ofG l g).1⟩,(ofG l g).2)
def nS (own:au)(g:Gs):Nat->List bw×Gs
 |0=>([],g)
 |i+1=>((nS own g i).1++[(mz (nS own g i).2 own).1],(mz (nS own g i).2 own).2)
def eH (own:au):List mM×Gs:=if g.val 5=0 then([⟨(cW g.aS own).1,kf[((cW g.aS own).2.val 8).toNat]!,[]⟩],(cW g.aS own).2.aS)else([],g.aS)
def lB (l:List bw):List cn×Gs:=if g.val 2=0 then([(m7 g.aS l).1],(m7 g.aS l).2)else([],g.aS)
def py (nm:au)(v:ca)(most:Int):Rec×Gs:=
 let a:=nS nm g.aS (g.val (most+1)).toNat
 let b:=eH a.2 nm
 let c:=lB b.2 a.1
 (⟨nm,v,a.1,b.1,c.1⟩,c.2)
def kX (s:bM)(r:Rec):bM×Int:=
 if ic s=false then(default,1)else if(fD r).2≠0 then(default,(fD r).2)else if 0<=sG s.es r.name r.v 0 then(default,8)else if 64<=s.es.length then(default,10)else(⟨s.name,s.es++[⟨r,wv r,false⟩]⟩,0)
def oH (s:bM)(nm:au)(v:ca)(on:Bool):bM×Int:=
 if ic s=false then(default,1)else if sG s.es nm v 0<0 then(default,9)else(⟨s.name,s.es.set (sG s.es nm v 0).toNat {s.es[(sG s.es nm v 0).toNat]! with off:=on}⟩,0)
def q9 (l:List bM)(k:Nat)(p:bM×Int):List bM:=if p.2=0 then l.set k p.1 else l
def lR (l:List bM):List bM×Gs:=
 let k:=(g.val l.length).toNat
 let nm:=cI[(g.aS.val 4).toNat]!
 let v:=bJ[(g.aS.aS.val 4).toNat]!
 let h:=g.aS.aS.aS
 if h.val 6=0 then(q9 l k (oH l[k]! nm v (decide (0<h.aS.val 3))),h.aS.aS)else(q9 l k (kX l[k]! (py h.aS nm v 2).1),(py h.aS nm v 2).2)
def Nc:List bM:=[⟨Rw,[]⟩,⟨AP,[]⟩]
def pS (g:Gs):Nat->List bM×Gs
 |0=>(Nc,g)
 |i+1=>lR (pS g i).2 (pS g i).1
def bh (ks:List Int)(most:Int):List bM:=(pS (⟨ks,0⟩:Gs).aS ((⟨ks,0⟩:Gs).val (most+1)).toNat).1
def Xt (s:au):0<=ET l s/\ET l s<=l.length:=by
 unfold ET;rcases e7 (f:=λt=>decide (t=s)) (l:=l) (k:=0)with⟨h,_⟩|⟨j,h,h2,_⟩
 .rw[h];simp
 .rw[h,ai ae];omega
def pe (n:Int)(g g':Gs):Prop:=g.i<=g'.i/\g'.i<=g.i+n
def pe.tr {n k:Int}{a b c:Gs}(h:pe n a b)(h2:pe k b c):pe (n+k) a c:=by unfold pe at*;omega
def xQ (own:au):pe 2 g (cW g own).2:=by unfold cW pe;split<;>simp only[Gs.aS]<;>omega
def BS (own:au):pe 4 g (dE g own).2:=by
 have:=xQ g own;simp only[pe,dE,Gs.aS]at*;omega
def V0 (own:au):pe 9 g (ib g own).2:=by
 have h1:=BS g own;have h2:=BS (dE g own).2.aS own;unfold ib;simp only[pe,Gs.aS]at*
 split
 .simp only;omega
 .split<;>simp only<;>omega
def RI (own:au):pe 11 g (mz g own).2:=by
 have h1:=V0 g own;simp only[pe,mz,jH,HE,Gs.aS]at*;omega
def HH:∀(l:List bw) (g:Gs),pe l.length g (iA l g).2
 |[],g=>by simp[pe,iA]
 |n::r,g=>by
  have h1:=HH r g;have h2:=HH r g.aS;simp only[pe,Gs.aS,bE]at*
  rw[iA];split
  .split<;>simp only[Gs.aS]<;>omega
  .omega
def xD (own:au)(g:Gs):∀i:Nat,pe (11*i) g (nS own g i).2/\(nS own g i).1.length=i
 |0=>⟨by simp[pe,nS],rfl⟩
 |i+1=>by
  have h1:=xD own g i;have h2:=RI (nS own g i).2 own;simp only[pe,nS,cu,bE,b8]at*
  omega
def GS (own:au):pe 4 g (eH g own).2:=by
 have:=xQ g.aS own;unfold eH;simp only[pe,Gs.aS]at*
 split<;>simp only<;>omega
def G4 (l:List bw):pe (1+l.length) g (lB g l).2:=by
 have:=HH l g.aS;unfold lB;simp only[pe,Gs.aS,m7,ofG]at*
 split<;>simp only<;>omega
def akF (nm:au)(v:ca):pe 30 g (py g nm v 2).2:=by
 have h4:=(g.SD (2+1)).1 ae;show pe 30 g (lB (eH (nS nm g.aS (g.val (2+1)).toNat).2 nm).2 (nS nm g.aS (g.val (2+1)).toNat).1).2;generalize g.val (2+1)=z at h4⊢;have h1:=xD nm g.aS z.toNat;have h2:=GS (nS nm g.aS z.toNat).2 nm;have h3:=G4 (eH (nS nm g.aS z.toNat).2 nm).2 (nS nm g.aS z.toNat).1;generalize nS nm g.aS z.toNat=a at*
 generalize eH a.2 nm=b at*
 generalize lB b.2 a.1=c at*
 simp only[pe,Gs.aS]at*
 omega
def akj (l:List bM):pe 34 g (lR g l).2:=by
 have h1:=akF g.aS.aS.aS.aS cI[(g.aS.val 4).toNat]! bJ[(g.aS.aS.val 4).toNat]!;by_cases h:g.aS.aS.aS.val 6=0
 .rw[show lR g l=_ from ak h];simp only[pe,Gs.aS];omega
 .rw[show lR g l=_ from ai h];simp only[pe,Gs.aS]at*;omega
def adW (l:List bM):(lR g l).1.length=l.length:=by
 simp only[lR,q9];split<;>simp only<;>split<;>simp
def R2 (g:Gs):∀i:Nat,pe (34*i) g (pS g i).2/\(pS g i).1.length=2
 |0=>⟨by simp[pe,pS],rfl⟩
 |i+1=>by
  have h1:=R2 g i;have h2:=akj (pS g i).2 (pS g i).1;have h3:=adW (pS g i).2 (pS g i).1;simp only[pe,pS]at*
  omega
def oa [Inhabited α]{l:List α}{P:α->Prop}(hd:P default)(h:∀x∈l,P x)(i:Nat):P l[i]! :=by
 by_cases hi:i<l.length
 .exact h _ (aq hi)
 .rw[show l[i]! =default by simp[List.getElem!_eq_getElem?_getD,List.getElem?_eq_none (Nat.le_of_not_lt hi)]];exact hd
def y6 (i:Nat):cI[i]!.length<=3:=oa (P:=λs:au=>s.length<=3) aU aU i
def za (own:au):(cW g own).1.length<=3:=by
 unfold cW;split<;>exact y6 _
def HS {g:Gs}:kA kf[(g.val 8).toNat]! :=by
 have:=g.eQ 8 ae;exact aq (by simp only[kf,bE,b8];omega)
def SH (own:au):(dE g own).1.sm:=⟨⟨by have:=za g own;simp only[dE];omega,HS⟩,λ_ h=>cj⟩
def ag8 (own:au):∀w∈(ib g own).1,w.sm:=by
 have h1:=SH g own;have h2:=SH (dE g own).2.aS own;unfold ib;split
 .intro w hw;simp only[bL,cY,or_false]at hw;rcases hw with rfl|rfl<;>assumption
 .split
  .intro w hw;rw[aD.1 hw];exact⟨h1.1,λt ht=>by rw[aD.1 ht];decide⟩
  .intro w hw;rw[aD.1 hw];exact h1
def adD (own:au):(mz g own).1.sm:=by
 refine⟨ag8 g own, ?_, ?_⟩
 .show oW (jH (ib g own).2).1;unfold jH oW;simp only;split
  .decide
  .split<;>decide
 .show(HE (jH (ib g own).2).2).1.length<=1048576;unfold HE;simp only;split<;>decide
def RE (own:au)(g:Gs):∀i,∀n∈(nS own g i).1,n.sm
 |0=>λ_ h=>by cases h
 |i+1=>λn h=>by
  rcases List.mem_append.1 h with h|h
  .exact RE own g i n h
  .rw[aD.1 h];exact adD _ _
structure iN where
 name:au
 shelf:au
 deriving Inhabited,DecidableEq
def iN.D (x:iN):D:=.agg [.str x.name,.str x.shelf]
structure kJ where
 name:au
 range:au
 deriving Inhabited,DecidableEq
def kJ.D (x:kJ):D:=.agg [.str x.name,.str x.range]
structure hR where
 r:Rec
 ps:List iN
 hs:List kJ
 deriving Inhabited,DecidableEq
def hR.D (x:hR):D:=.agg [.str x.r.name,.int .i64 x.r.v.major,.int .i64 x.r.v.minor,.int .i64 x.r.v.patch,.str x.r.v.pre,.str x.r.v.build,.sl 3 (x.r.needs.map bw.D),.sl 3 (x.r.bars.map mM.D),.sl 2 (x.r.feats.map cn.D),.sl 2 (x.ps.map iN.D),.sl 2 (x.hs.map kJ.D)]
def Mf (l:List iN)(i:Nat):Int:=if(dn l[i]!.name=false\/dn l[i]!.shelf=false)\/(0<i/\Op.bytesLess l[i-1]!.name l[i]!.name=false)then 15 else 0
def Cx (l:List kJ)(i:Nat):Int:=if dn l[i]!.name=false\/(0<i/\Op.bytesLess l[i-1]!.name l[i]!.name=false)then 4 else if qV l[i]!.range=false then 6 else 0
def Dc (l:List iN):Int×Int:=gX (Mf l) 0 l.length
def Cz (l:List kJ):Int×Int:=gX (Cx l) 0 l.length
def kL (m:hR):Int×Int:=if ¬(dc m.r).1=0 then dc m.r else if 8<m.ps.length\/8<m.hs.length then(3,0)else if ¬(Dc m.ps).1=0 then Dc m.ps else Cz m.hs
def XV (m:hR):Prop:=ir m.r/\∀h∈m.hs,kA h.range
structure uF where
 r:Rec
 sh:Int
 deriving Inhabited,DecidableEq
def uF.D (x:uF):D:=.agg [.str x.r.name,.int .i64 x.r.v.major,.int .i64 x.r.v.minor,.int .i64 x.r.v.patch,.str x.r.v.pre,.str x.r.v.build,.sl 3 (x.r.needs.map bw.D),.sl 3 (x.r.bars.map mM.D),.sl 2 (x.r.feats.map cn.D),.int .i64 x.sh]
def uM (l:List uF):D:=.sl 10 (l.map uF.D)
instance keyDec:DecidableEq Key:=λa b=>decidable_of_iff (a.n=b.n/\a.f=b.f) (by cases a;cases b;simp)
structure jq where
 k:Key
 s:cA
 deriving Inhabited,DecidableEq
def jq.D (a:jq):D:=.agg [.str a.k.n,.str a.k.f,.sl 14 (a.s.rel.map Span.D),.sl 14 (a.s.pr.map Span.D)]
abbrev fV:=List jq
def dU (r:fV):D:=.sl 4 (r.map jq.D)
structure cF where
 l:List hR
 shop:List bM
 e:Env
 keeps:List Kp
 pins:List iN
 deriving Inhabited,DecidableEq
def cF.D (y:cF)(f:D):D:=.agg [.sl 11 (y.l.map hR.D),.sl 2 (y.shop.map bM.D),.str y.e.e0,.str y.e.e1,.str y.e.e2,.sl 6 (y.keeps.map Kp.D),.sl 2 (y.pins.map iN.D),f]
variable(y:cF)
def linW:au:=[108,105,110,117,120]
def FO (w:au)(e:Env):Bool:=if w=osY then decide (e.e0=[]) ||decide (e.e0=linW)else if w=osN then !decide (e.e0=linW)else true
def fh (x:di):List Key:=(if x.bare=true then(if x.feats=[]then [⟨x.name,[]⟩]else [])else [⟨x.name,lv⟩])++x.feats.map λf=>⟨x.name,f⟩
def bC (a b c:Int):Cut:=⟨0,⟨a,b,c,[],[]⟩,false⟩
def a1W:au:=[97,46,49]
def hZ:List cA:=[⟨Qd,[]⟩,⟨[⟨bC 1 0 0,bC 2 0 0⟩],[]⟩,⟨[⟨bC 1 2 0,bC 1 2 1⟩],[]⟩,⟨[⟨bC 1 2 0,LC⟩],[]⟩,⟨[⟨Cl,bC 2 0 0⟩],[]⟩,
 ⟨[⟨bC 2 0 0,bC 3 0 0⟩],[⟨⟨0,⟨2,0,0,a1W,[]⟩,false⟩,bC 2 0 0⟩]⟩,⟨[⟨bC 1 0 0,bC 1 0 1⟩,⟨bC 2 0 0,bC 2 0 1⟩],[]⟩,⟨[⟨Cl,bC 1 2 0⟩,⟨bC 1 2 1,LC⟩],[]⟩]
def fg (s:au):cA:=hZ[(gM (λt=>decide (t=s)) kf 0).toNat]!
def plnW:au:=[112,108,97,110,57]
def qF:List Env:=[⟨[],[],[]⟩,⟨linW,[],[]⟩,⟨plnW,[],[]⟩]
def lz (e:Env):Prop:=e∈qF
def iM (n:bw):List fV:=if n.any.length=1 then(fh n.any[0]!).map λk=>[⟨k,fg n.any[0]!.range⟩]else [n.any.map λw=>⟨(fh w)[0]!,fg w.range⟩]
def Ba (e:Env)(o:au)(n:bw):List fV:=if n.option=o/\FO n.when' e=true then iM n else []
def qS (ns:List bw)(e:Env)(o:au):List fV:=ns.flatMap (Ba e o)
def rD (e:Env)(nm ft:au)(n:bw):List fV:=if(n.any.length=1/\n.any[0]!.name=nm)/\FO n.when' e=true then(if n.option=[]then []else iM n)++[[⟨⟨nm,ft⟩,fg n.any[0]!.range⟩]]else []
def iY (ns:List bw)(e:Env)(nm ft:au):List fV:=ns.flatMap (rD e nm ft)
def mr (r:Rec)(e:Env)(s:au):List fV:=if(bP s).1=1 then [[⟨⟨r.name,(bP s).2.1⟩,dJ r.v⟩]]else if(bP s).1=2 then qS r.needs e (bP s).2.1 else iY r.needs e (bP s).2.1 (bP s).2.2
def u6 (l:List cn)(ft:au):List au:=if findF l ft 0<0 then []else l[(findF l ft 0).toNat]!.of
def cQ (r:Rec)(e:Env)(ft:au):List fV:=if ft=[]then qS r.needs e []else [[⟨⟨r.name,[]⟩,dJ r.v⟩]]++(u6 r.feats ft).flatMap (mr r e)
def eJ (l:List hR):List fV:=l.map λm=>[⟨⟨m.r.name,lv⟩,dJ m.r.v⟩]
def fL:Key:=⟨[],[]⟩
def e8 (a b:Key):Bool:=Op.bytesLess a.n b.n ||(decide (a.n=b.n)&&Op.bytesLess a.f b.f)
def EU (l:List Key)(k:Key)(i:Nat):Nat:=i+((l.drop i).takeWhile λx=>e8 x k).length
def sH (l:List Key)(k:Key):List Key:=if EU l k 0<l.length/\l[EU l k 0]! =k then l else(l.take (EU l k 0)++[k])++l.drop (EU l k 0)
def ep (l:List Key)(k:Key):Int:=gM (λx=>decide (x=k)) l 0
def isM (nm:au)(m:hR):Bool:=decide (m.r.name=nm)
def lQ (l:List hR)(nm:au):Int:=gM (isM nm) l 0
def Cw (nm:au)(s:bM):Bool:=s.es.any λx=>decide (x.r.name=nm)
def Al (l:List iN):Bool:=b9 (λi=>decide (Mf l i=0)) 0 l.length
def E3 (l:List iN)(nm:au):Int:=gM (λp=>decide (p.name=nm)) l 0
def gy (pins:List iN)(nm:au):Int×Int:=
 if eS shop=false then(0,1)else if Al pins=false then(0,15)
 else if 0<=E3 pins nm then(if mE shop pins[(E3 pins nm).toNat]!.shelf<0 then(0,12)else(mE shop pins[(E3 pins nm).toNat]!.shelf,0))
 else if gM (Cw nm) shop 0<0 then(0,9)else(gM (Cw nm) shop 0,0)
def A5 (es:List kj)(l:List Int)(i k:Nat):Nat:=k+((l.drop k).takeWhile λj=>decide (iL es[j.toNat]!.r.v es[i]!.r.v<0)).length
def Hf (es:List kj)(l:List Int)(i:Nat):List Int:=(l.take (A5 es l i 0)++[(i:Int)])++l.drop (A5 es l i 0)
def eI (es:List kj)(nm:au):Nat->List Int
 |0=>[]
 |i+1=>if es[i]!.r.name=nm then Hf es (eI es nm i) i else eI es nm i
def ku (s:bM)(nm:au):List Int:=if ic s=false then []else eI s.es nm s.es.length
def cO (pins:List iN)(nm:au):Int×List Int×Int:=if(gy shop pins nm).2≠0 then(0,[],(gy shop pins nm).2)else((gy shop pins nm).1,ku shop[(gy shop pins nm).1.toNat]! nm,0)
def LA (ks:List Kp)(r:Rec):Bool:=ks.any λk=>decide (k.name=r.name)&&L6 k.v r.v
def kQ (l:List hR)(nm:au):cA:=if l[0]!.hs.length≠0/\l[0]!.hs[0]!.name=nm then fg l[0]!.hs[0]!.range else pH
def Sy (nm:au)(x:kj):Bool:=(!x.off ||LA y.keeps x.r)&&pf (kQ y.l nm) x.r.v
def iX (y:cF)(nm:au)(at':Nat):List Int->List uF
 |[]=>[]
 |i::r=>(if Sy y nm y.shop[at']!.es[i.toNat]! =true then [⟨y.shop[at']!.es[i.toNat]!.r,(at':Int)⟩]else [])++iX y nm at' r
def dL (nm:au):List uF:=
 if 0<=lQ y.l nm then [⟨y.l[(lQ y.l nm).toNat]!.r,-1⟩]else if(cO y.shop y.pins nm).2.2≠0 then []else iX y nm (cO y.shop y.pins nm).1.toNat (cO y.shop y.pins nm).2.1
def Yd (ft:au)(x:uF):Bool:=decide (ft=[]) ||isF x.r.feats ft
def eN (k:Key):List uF:=(dL y k.n).filter (Yd k.f)
def de (k:Key):List fV:=if k=fL then eJ y.l else(eN y k).flatMap λx=>cQ x.r y.e k.f
structure pd where
 all:List Key
 todo:List Key
 deriving Inhabited,DecidableEq
def mC (s:pd)(a:jq):pd:=if s.all.length<(sH s.all a.k).length then⟨sH s.all a.k,s.todo++[a.k]⟩else s
def Ph (s:pd)(r:List fV):pd:=r.foldl (λs row=>row.foldl mC s) s
def Bg (s:pd):pd:=Ph ⟨s.all,s.todo.drop 1⟩ (de y s.todo[0]!)
def Be (y:cF):Nat->pd->Option (List Key)
 |0,_=>none
 |n+1,s=>if s.todo.length=0 then some s.all else if 48<(Bg y s).all.length then none else Be y n (Bg y s)
def nG:pd:=⟨[fL],[fL]⟩
def mU:Option (List Key):=Be y 49 nG
def dH (all:List Key)(l:List fV):List nX:=l.map λr=>r.map λa=>⟨ep all a.k,a.s⟩
def qz (all:List Key)(e:Env)(b:mM):List Want:=if 0<=ep all ⟨b.name,[]⟩/\FO b.when' e=true then [⟨ep all ⟨b.name,[]⟩,fg b.range⟩]else []
def wR (all:List Key)(r:Rec)(e:Env):List Want:=r.bars.flatMap (qz all e)
def dV (all:List Key)(k:Key)(x:uF):eA:=⟨x.r.v,x.sh,dH all (cQ x.r y.e k.f),if k.f=[]then wR all x.r y.e else []⟩
def oF (c:eA):Bool:=decide (24<c.needs.length) ||decide (24<c.bars.length)
def ey (all:List Key)(k:Key):List eA×Bool:=
 if k=fL then([⟨zV,-1,dH all (eJ y.l),[]⟩],true)
 else if((eN y k).map (dV y all k)).any oF=true then([],false)else((eN y k).map (dV y all k),decide ((dL y k.n).length<=16))
def rN (all:List Key)(k:Key):cJ:=⟨k.n,k.f,(ey y all k).1⟩
def nM (y:cF)(all:List Key):Nat->List cJ×Bool
 |0=>([],true)
 |i+1=>if(nM y all i).2=true then((nM y all i).1++[rN y all all[i]!],(ey y all all[i]!).2)else nM y all i
def ez:bR×Bool:=match mU y with
 |none=>(⟨[]⟩,false)
 |some all=>(⟨(nM y all all.length).1⟩,(nM y all all.length).2)
def gN (l:List hR):List iN:=l[0]!.ps
def gV (l:List hR)(shop:List bM)(e:Env)(keeps:List Kp):bR×Int:=
 if eS shop=false\/n6 e=false then(⟨[]⟩,1)else if(gN l).any (λp=>decide (mE shop p.shelf<0))=true then(⟨[]⟩,12)
 else if(ez ⟨l,shop,e,keeps,gN l⟩).2=false then(⟨[]⟩,10)else((ez ⟨l,shop,e,keeps,gN l⟩).1,0)
end Go.Abs
