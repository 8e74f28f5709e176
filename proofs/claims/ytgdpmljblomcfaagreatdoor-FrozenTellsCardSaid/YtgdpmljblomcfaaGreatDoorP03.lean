/- A part of the proofs. -/
import Derived.Test.YtgdpmljblomcfaaGreatDoorP02
set_option linter.all false
set_option maxRecDepth 60000
set_option maxHeartbeats 2000000
namespace Go.Abs
variable {Y:Ctx}(hm:(Y.at 0).bR)
section
abbrev RT:=List D->D->Prop
abbrev FT:=D->List D->D->D->Prop
abbrev TT:=List D->St->(D->St->Prop)->Prop
def Kz (T:TT):Prop:=∀ds st K K',(∀d st',K d st'->K' d st')->T ds st K->T ds st K'
def Hd (A:RT->Prop):RT:=fun ds d=>∀T,A T->T ds d
def nV (A:FT->Prop):FT:=fun d ds v s=>∀T,A T->T d ds v s
def afg (T:TT):Ctx:=⟨fun _ _=>False,fun _ _=>.any,fun _=>T,fun _ _ _=>False,fun _ _ _=>.any,fun _ _ _=>.any,0⟩
def Xj (C:Ctx->Prop):TT:=fun ds st K=>∀T,Kz T->C (afg T)->T ds st K
def Lo (C:Ctx->Prop):Kz (Xj C):=fun _ _ _ _ h h1 T hT hC=>hT _ _ _ _ h (h1 T hT hC)
def noR:RT:=fun _ _=>False
def noF:FT:=fun _ _ _ _=>False
def noT:TT:=fun _ _ _=>False
def C4:Kz noT:=fun _ _ _ _ _ h=>h.elim
structure mA where
 key:Nat
 rel:RT
 mu:List D->Nat
 relF:FT
 tr:TT
 muE:List D->St->Nat
 mono:Kz tr
def mu0:List D->Nat:=fun _=>0
def muE0:List D->St->Nat:=fun _ _=>0
def mS:mA:=⟨0,noR,mu0,noF,noT,muE0,C4⟩
def rP (k:Nat)(A:RT->Prop)(mu:List D->Nat:=mu0):mA:=⟨k,Hd A,mu,noF,noT,muE0,C4⟩
def rF (k:Nat)(A:FT->Prop):mA:=⟨k,noR,mu0,nV A,noT,muE0,C4⟩
def rG (k:Nat)(C:Ctx->Prop)(mu:List D->St->Nat:=muE0):mA:=⟨k,noR,mu0,noF,Xj C,mu,Lo C⟩
noncomputable def pick (r:D->Prop):D:=Classical.epsilon r
def lD {r:D->Prop}(h:∃d,r d):r (pick r):=Classical.epsilon_spec h
def Det (R:RT):Prop:=∀ds d d',R ds d->R ds d'->d=d'
def yG (R:FT):Prop:=∀d ds v s v' s',R d ds v s->R d ds v' s'->v=v'/\s=s'
def ag4 {A:RT->Prop}(h:A fun ds d=>A fun ds' d'=>ds'=ds->d=d'):Det (Hd A):=fun ds d d' h1 h2=>h2 _ (h1 _ h) rfl
def abO {A:FT->Prop}(h:A fun d ds v s=>A fun d' ds' v' s'=>d'=d->ds'=ds->v=v'/\s=s'):yG (nV A):=fun d ds v s v' s' h1 h2=>h2 _ (h1 _ h) rfl rfl
noncomputable def EH (t:List (Nat×mA)):Ctx where
 pre n ds:=∃d,(lk t n mS).rel ds d
 val n ds:=pick ((lk t n mS).rel ds)
 tr n:=(lk t n mS).tr
 fp n d ds:=∃v s,(lk t n mS).relF d ds v s
 fv n d ds:=pick fun v=>∃s,(lk t n mS).relF d ds v s
 fs n d ds:=pick fun s=>∃v,(lk t n mS).relF d ds v s
 lo:=0
def YP (t:List (Nat×mA)):Rank:=⟨fun n=>(lk t n mS).key,fun n=>(lk t n mS).mu,fun n=>(lk t n mS).muE⟩
noncomputable abbrev under (t:List (Nat×mA))(k u:Nat):Ctx:=(EH t).under (YP t) k u
def D8 (t:List (Nat×mA))(k u n:Nat):(((EH t).under (YP t) k u).at n).bR:=
 fun f ds st K K' h hh=>⟨hh.1,(lk t f mS).mono ds st K K' h hh.2⟩
section
variable {t:List (Nat×mA)} {n k u:Nat} {ds:List D} {d v s:D} {st:St} {K:D->St->Prop}
def okp (hD:Det (lk t n mS).rel)(hk:(lk t n mS).key<k\/(lk t n mS).key=k/\(lk t n mS).mu ds<u)(h:(lk t n mS).rel ds d):(under t k u).pre n ds/\(under t k u).val n ds=d:=
 ⟨⟨hk,d,h⟩,hD _ _ _ (lD ⟨d,h⟩) h⟩
def okf (hD:yG (lk t n mS).relF)(hk:(lk t n mS).key<k)(h:(lk t n mS).relF d ds v s):(under t k u).fp n d ds/\(under t k u).fv n d ds=v/\(under t k u).fs n d ds=s:=by
 refine⟨⟨.inl hk,v,s,h⟩, ?_, ?_⟩
 .obtain⟨s',h'⟩:=lD (r:=fun v=>∃s,(lk t n mS).relF d ds v s) ⟨v,s,h⟩;exact(hD _ _ _ _ _ _ h' h).1
 .obtain⟨v',h'⟩:=lD (r:=fun s=>∃v,(lk t n mS).relF d ds v s) ⟨s,v,h⟩;exact(hD _ _ _ _ _ _ h' h).2
def OM (hk:(lk t n mS).key<k\/(lk t n mS).key=k/\(lk t n mS).muE ds st<u)(h:(lk t n mS).tr ds st K):(under t k u).tr n ds st K:=⟨hk,h⟩
end
section
variable [cN] {P:Program} {ν:List (Nat×Nat)} {bP:List Nat} {Y:Ctx} {t:List (Nat×mA)} {fid n key:Nat}
def Kw (P:Program)(ν:List (Nat×Nat))(bP:List Nat)(Y:Ctx)(fid:Nat)(ds:List D)(d:D):Prop:=Ok P ν bP Y->∀(x:X) (args:Array Value),args.size=ds.length->(∀i,i<ds.length->RD ν x (args.getD i undef) (ds.getD i .any))->aL ds=true->
  (∀b,x.I b->b<x.w.heap.size)->cN.gd x->jG P x (fun v x'=>nK x x'/\RD ν x' v d) ((callFunc fid args).run P x.w)
def Qr (P:Program)(ν:List (Nat×Nat))(bP:List Nat)(Y:Ctx)(fid:Nat)(d:D)(ds:List D)(vd new:D):Prop:=Ok P ν bP Y->∀(x:X) (f:Nat->Option bm) (args:Array Value) (l k:Nat),args.size=ds.length+1->
   RD ν x (args.getD 0 undef) (.ptr l k 0 0)->(∀i,i<ds.length->RD ν x (args.getD (i+1) undef) (ds.getD i .any))->fm ν x f->f l=some (.buf k [d])->d.aR=true->aL ds=true->
   jG P x (fun v x'=>Step x x'/\RD ν x' v vd/\fm ν x' (fun l'=>if l'=l then some (.buf k [new])else f l')/\x'.β=x.β) ((callFunc fid args).run P x.w)
def rO (P:Program)(ν:List (Nat×Nat))(bP:List Nat)(Y:Ctx)(fid:Nat)(ds:List D)(st:St)(K:D->St->Prop):Prop:=Ok P ν bP Y->∀(x:X) (args:Array Value),args.size=ds.length->(∀i,i<ds.length->RD ν x (args.getD i undef) (ds.getD i .any))->fm ν x (look st.m)->eW st x->
  jG P x (fun v x'=>∃d st',K d st'/\Step x x'/\RD ν x' v d/\fm ν x' (look st'.m)/\eW st' x') ((callFunc fid args).run P x.w)
structure Owe (P:Program)(ν:List (Nat×Nat))(bP:List Nat)(t:List (Nat×mA))(fid n:Nat):Prop where
 p:∀ds d,(lk t n mS).rel ds d->Kw P ν bP (under t (lk t n mS).key ((lk t n mS).mu ds)) fid ds d
 f:yG (lk t n mS).relF/\∀d ds v s,(lk t n mS).relF d ds v s->Qr P ν bP (under t (lk t n mS).key ((lk t n mS).mu (d::ds))) fid d ds v s
 g:∀ds st K,(lk t n mS).tr ds st K->rO P ν bP (under t (lk t n mS).key ((lk t n mS).muE ds st)) fid ds st K
def okA (hsm:∀fid n,dY ν fid=some n->n<1000000)(hB:∀t,bP.contains (1000000000+t)=true->t=cN.tB)(hG:∀g,bP.contains (500000000+g)=true/\g<400000000->cN.gz g)(h:∀fid n,dY ν fid=some n->Owe P ν bP t fid n):Ok P ν bP (EH t):=by
 refine ok_of (YP t) hsm hB hG (fun fid n hn ds hp hok=>(h fid n hn).p ds _ (lD hp) hok) (fun fid n hn _ d ds hp hok=>?_) (fun fid n hn ds st K htr hok=>(h fid n hn).g ds st K htr hok);obtain⟨v,s,hr⟩:=hp;obtain⟨hD,hf⟩:=(h fid n hn).f;have h2:(EH t).fv n d ds=v/\(EH t).fs n d ds=s:=by
  constructor
  .obtain⟨s',h'⟩:=lD (r:=fun v=>∃s,(lk t n mS).relF d ds v s) ⟨v,s,hr⟩;exact(hD _ _ _ _ _ _ h' hr).1
  .obtain⟨v',h'⟩:=lD (r:=fun s=>∃v,(lk t n mS).relF d ds v s) ⟨s,v,hr⟩;exact(hD _ _ _ _ _ _ h' hr).2
 rw[h2.1,h2.2];exact hf d ds v s hr hok
def Ho {Y:D->List D->Ctx}:yG noF/\∀d ds v s,noF d ds v s->Qr P ν bP (Y d ds) fid d ds v s:=⟨fun _ _ _ _ _ _ h=>h.elim,fun _ _ _ _ h=>h.elim⟩
def aI {A:RT->Prop}{mu:List D->Nat}(hr:lk t n mS=rP key A mu)(h:A fun ds d=>Kw P ν bP (under t key (mu ds)) fid ds d):Owe P ν bP t fid n:=by
 refine⟨?_, ?_, ?_⟩<;>rw[hr]
 .exact fun ds d hd=>hd (fun ds d=>Kw P ν bP (under t key (mu ds)) fid ds d) h
 .exact Ho
 .exact fun _ _ _ h=>h.elim
def OO {A:FT->Prop}(hr:lk t n mS=rF key A)(hD:yG (nV A))(h:A fun d ds v s=>Qr P ν bP (under t key 0) fid d ds v s):Owe P ν bP t fid n:=by
 refine⟨?_, ?_, ?_⟩<;>rw[hr]
 .exact fun _ _ h=>h.elim
 .exact⟨hD,fun d ds v s hd=>hd _ h⟩
 .exact fun _ _ _ h=>h.elim
def To {Y:List D->St->Ctx}:Kz fun ds st K=>rO P ν bP (Y ds st) fid ds st K:=fun ds st K K' h hg hok x args hl ha hs hf=>(hg hok x args hl ha hs hf).mono fun v x' ⟨d,st',h1,h2⟩=>⟨d,st',h _ _ h1,h2⟩
def xQ {C:Ctx->Prop}{mu:List D->St->Nat}(hr:lk t n mS=rG key C mu)(h:C (afg fun ds st K=>rO P ν bP (under t key (mu ds st)) fid ds st K)):Owe P ν bP t fid n:=by
 refine⟨?_, ?_, ?_⟩<;>rw[hr]
 .exact fun _ _ h=>h.elim
 .exact Ho
 .exact fun ds st K hd=>hd (fun ds st K=>rO P ν bP (under t key (mu ds st)) fid ds st K) To h
def SP (P:Program)(ν:List (Nat×Nat))(bP:List Nat)(fid:Nat)(af:aj):Prop:=(P.funcs[fid]?).map (fun f=>(compile P ν bP f,f.name== "runtime.NumGoroutine"))=some (some af,false)
def SP.split {af:aj}(h:SP P ν bP fid af):∃fn,P.funcs[fid]? =some fn/\compile P ν bP fn=some af/\(fn.name== "runtime.NumGoroutine")=false:=by
 grind [SP]
def au {af:aj}{ds:List D}{d:D}(hmix:P.follows .mixedOrders=true)(hC:SP P ν bP fid af)(h1:ds.length=af.np)(h2:dp (Y.at 0) af.body (ND af d) (fq af ds) ⟨0,[]⟩):Kw P ν bP Y fid ds d:=by
 intro hok x args hl hargs hnl himm hgd;obtain⟨fn,hf,hc,hn⟩:=hC.split;obtain⟨body,c1,_⟩:=gG hc;exact .inr ⟨fid,args,gZ hf hn (by rw[c1];rfl) args x.w,acg hok hmix hf hc hl hargs hnl himm hgd h1 h2⟩
def Cu {af:aj}{d:D}{ds:List D}{vd new:D}(k0:Nat)(hmix:P.follows .mixedOrders=true)(hC:SP P ν bP fid af)(h1:ds.length+1=af.np)(hk:d.cells.length=k0)
  (h2:dp (Y.at 1) af.body (GG af k0 vd new) (fq af (.ptr 0 k0 0 0::ds)) ⟨1,[(0,.buf k0 [d])]⟩):Qr P ν bP Y fid d ds vd new:=by
 intro hok x f args l k hl h0 hargs hs hfl hd hnl;obtain⟨fn,hf,hc,hn⟩:=hC.split;obtain⟨body,c1,_⟩:=gG hc;have hkk:k=k0:=by
  generalize args.getD 0 undef=v0 at h0;cases h0 with
  |ptr _ _ _ _ b base tot at_ hβ hat=>
   obtain⟨p1,p2,c,T,fr,p3,p4,p5,p6⟩:=(hs.own l _ b base tot hfl hβ).2;have:=(p6 0 aG).1
   grind
 subst hkk;exact .inr ⟨fid,args,gZ hf hn (by rw[c1];rfl) args x.w,ace hok hmix hf hc hl h0 hargs hs hfl hd hnl h1 h2⟩
def Fu {af:aj}{ds:List D}{st:St}{K:D->St->Prop}{σi:List (Nat×Nat)}{q:Nat}{m0:List (Nat×bm)}{cs:List D}{Q:D->List (Nat×bm)->Prop}(hmono:∀q,(Y.at q).bR)(hmix:P.follows .mixedOrders=true)(hC:SP P ν bP fid af)
  (h1:cs.length=ds.length) (h2:∀i,i<ds.length->RnD 0 σi (ds.getD i .any) (cs.getD i .any)) (h3:cs.length=af.np)
  (h4:fX 0 q σi=true) (h5:∀l i,(l,i)∈σi->look st.m l≠none) (h6:∀i b,look m0 i=some b->∃l b',(l,i)∈σi/\look st.m l=some b'/\pB 0 σi b' b)
  (h7:dp (Y.at q) af.body (rI af Q) (fq af cs) ⟨q,m0⟩) (h8:∀d m1,Q d m1->∃(σo:List (Nat×Nat)) (q1:Nat) (st':St) (vd':D),Fr σi σo q q1 m0 m1 st st'/\RnD 0 σo d vd'/\K vd' st'):rO P ν bP Y fid ds st K:=by
 intro hok x args hl hargs hs hfr;obtain⟨fn,hf,hc,hn⟩:=hC.split;obtain⟨body,c1,_⟩:=gG hc;refine .inr ⟨fid,args,gZ hf hn (by rw[c1];rfl) args x.w, ?_⟩;refine Calls.mono (acf (K:=K) hok hmix hf hc hl hargs hs hfr h1 h2 h3 h4 h5 h6 (ij (hmono q) _ _ _ _ _ (fun e env st1 h=>?_) h7)) fun e w' he=>?_
 .obtain⟨g1,g2,m1,g3,g4⟩:=h
  grind
 grind
end
end
theorem kL {α:Type}{f:α->D}(hf:∀x y,f x=f y↔x=y):∀a b:List α,a.map f=b.map f↔a=b
 |[],[]=>aG
 |[],_::_=>aG
 |_::_,[]=>aG
 |x::a,y::b=>by simp only[List.map_cons,sY,hf,kL hf a b]
def iNat (a b:Nat):((a:Nat):Int)=(b:Nat)↔a=b:=ae
theorem iU8 (x y:UInt8):((x.toNat:Nat):Int)=(y.toNat:Nat)↔x=y:=(iNat _ _).trans px
def W1 (a b:List av):a.map D.str=b.map D.str↔a=b:=kL (fun _ _=>aG) a b
def Tt (a b:List Int):a.map (D.int .i64)=b.map (D.int .i64)↔a=b:=kL (fun _ _=>aG) a b
def iByt (a b:av):(a.map fun c=>D.int .u8 c.toNat)=(b.map fun c=>D.int .u8 c.toNat)↔a=b:=by grind [kL,iU8]
def iVer (a b:bZ):bZ.D a=bZ.D b↔a=b:=by cases a;cases b;simp[bZ.D]
structure Cut where
 e:Int
 v:bZ
 a:Bool
 deriving Inhabited,DecidableEq
def Cut.D (c:Cut):D:=.agg [.int .i64 c.e,.int .i64 c.v.major,.int .i64 c.v.minor,.int .i64 c.v.patch,.str c.v.pre,.str c.v.build,.bool c.a]
structure Span where
 f:Cut
 t:Cut
 deriving Inhabited,DecidableEq
def Span.D (s:Span):D:=.agg [.int .i64 s.f.e,.int .i64 s.f.v.major,.int .i64 s.f.v.minor,.int .i64 s.f.v.patch,.str s.f.v.pre,.str s.f.v.build,.bool s.f.a,
 .int .i64 s.t.e,.int .i64 s.t.v.major,.int .i64 s.t.v.minor,.int .i64 s.t.v.patch,.str s.t.v.pre,.str s.t.v.build,.bool s.t.a]
structure cy where
 rel:List Span
 pr:List Span
 deriving Inhabited,DecidableEq
def cy.D (s:cy):D:=.agg [.sl 14 (s.rel.map Span.D),.sl 14 (s.pr.map Span.D)]
structure Want where
 u:Int
 s:cy
 deriving Inhabited,DecidableEq
def Want.D (w:Want):D:=.agg [.int .i64 w.u,.sl 14 (w.s.rel.map Span.D),.sl 14 (w.s.pr.map Span.D)]
abbrev oz:=List Want
def jC (r:oz):D:=.sl 3 (r.map Want.D)
structure ei where
 v:bZ
 sh:Int
 needs:List oz
 bars:List Want
 deriving Inhabited,DecidableEq
def ei.D (c:ei):D:=.agg [.int .i64 c.v.major,.int .i64 c.v.minor,.int .i64 c.v.patch,.str c.v.pre,.str c.v.build,.int .i64 c.sh,.sl 1 (c.needs.map jC),.sl 3 (c.bars.map Want.D)]
structure c9 where
 name:av
 feat:av
 cands:List ei
 deriving Inhabited,DecidableEq
def c9.D (u:c9):D:=.agg [.str u.name,.str u.feat,.sl 8 (u.cands.map ei.D)]
structure b6 where
 us:List c9
 deriving Inhabited,DecidableEq
def b6.D (w:b6):D:=.agg [.sl 3 (w.us.map c9.D)]
structure dU where
 u:Int
 m:Int
 deriving Inhabited,DecidableEq
def dU.D (t:dU):D:=.agg [.int .i64 t.u,.int .i64 t.m]
structure jk where
 kind:Int
 unit:Int
 a:Int
 b:Int
 terms:List dU
 deriving Inhabited,DecidableEq
def jk.D (r:jk):D:=.agg [.int .i64 r.kind,.int .i64 r.unit,.int .i64 r.a,.int .i64 r.b,.sl 2 (r.terms.map dU.D)]
structure wB where
 w:b6
 allow:List Int
 rows:List jk
 deriving Inhabited,DecidableEq
def wB.D (c:wB):D:=.agg [.sl 3 (c.w.us.map c9.D),.sl 1 (c.allow.map (D.int .i64)),.sl 5 (c.rows.map jk.D)]
def eqBb (a b:Bool):hR (D.bool a).cells (D.bool b).cells=decide (a=b):=by cases a<;>cases b<;>rfl
def se (f:Nat->Int):Nat->Nat->Int
 |_,0=>0
 |i,k+1=>if f i=0 then se f (i+1) k else f i
def fM (f:Nat->Int)(i n:Nat):Int:=se f i (n-i)
def pK {f:Nat->Int}{i n:Nat}(h:i<n)(hf:f i=0):fM f i n=fM f (i+1) n:=by
 unfold fM;obtain⟨k,hk⟩:∃k,n-i=k+1:=⟨n-i-1,ae⟩
 grind [se]
def lu {f:Nat->Int}{i n:Nat}(h:i<n)(hf:f i≠0):fM f i n=f i:=by
 unfold fM;obtain⟨k,hk⟩:∃k,n-i=k+1:=⟨n-i-1,ae⟩
 rw[hk];simp only[se,hf,aU]
def pJ {f:Nat->Int}{i n:Nat}(h:n<=i):fM f i n=0:=by
 unfold fM;rw[show n-i=0 by omega];rfl
def dq (a b:Int):Int:=if a<b then-1 else if b<a then 1 else 0
def pH (a b:av):Int:=if Op.bytesLess a b=true then-1 else if a=b then 0 else 1
def yr (a b:av):Int:=if cP a=true/\cP b=true then dq (C6 a) (C6 b)else if cP a=true then-1 else if cP b=true then 1 else pH a b
def MY (l m:List av):Nat->Nat->Int
 |_,0=>dq l.length m.length
 |i,k+1=>if yr l[i]! m[i]! ≠0 then yr l[i]! m[i]! else MY l m (i+1) k
def vr (l m:List av)(i:Nat):Int:=MY l m i (min l.length m.length-i)
def Gf {l m:List av}{i:Nat}(h:i<l.length/\i<m.length)(hn:yr l[i]! m[i]! ≠0):vr l m i=yr l[i]! m[i]! :=by
 unfold vr;rw[show min l.length m.length-i=(min l.length m.length-(i+1))+1 by omega,MY,ak hn]
def MX {l m:List av}{i:Nat}(h:i<l.length/\i<m.length)(hn:yr l[i]! m[i]! =0):vr l m i=vr l m (i+1):=by
 unfold vr;rw[show min l.length m.length-i=(min l.length m.length-(i+1))+1 by omega,MY,ai (by rw[hn];simp)]
def Ge {l m:List av}{i:Nat}(h:l.length<=i\/m.length<=i):vr l m i=dq l.length m.length:=by
 unfold vr;rw[show min l.length m.length-i=0 by omega,MY]
def Bc (a b:av):Int:=if a=b then 0 else if a=[]then 1 else if b=[]then-1 else vr (bd a 46) (bd b 46) 0
def iL (a b:bZ):Int:=if gy a=false\/gy b=false then 0 else
 if dq a.major b.major≠0 then dq a.major b.major else if dq a.minor b.minor≠0 then dq a.minor b.minor else
 if dq a.patch b.patch≠0 then dq a.patch b.patch else Bc a.pre b.pre
def rX (v:bZ):bZ:=⟨v.major,v.minor,v.patch,v.pre,[]⟩
theorem S9 (a:Int):dq a a=0:=by simp[dq]
def yL {a b:Int}:dq a b=0↔a=b:=by
 grind [dq]
def Fk {a b:bZ}(h:rX a=rX b):iL a b=0:=by
 grind [rX,iL,Bc,S9]
theorem Wx (x y z:Int):fM (fun i=>[x,y,z][i]!) 0 [x,y,z].length=if x≠0 then x else if y≠0 then y else z:=by
 grind [fM,se]
def Wz {x y z:Int}(h:fM (fun i=>[x,y,z][i]!) 0 [x,y,z].length=0):x=0/\y=0/\z=0:=by
 grind [Wx]
def Wy {a b:bZ}(hv:¬(gy a=false\/gy b=false))(h:¬fM (fun i=>[dq a.major b.major,dq a.minor b.minor,dq a.patch b.patch][i]!) 0 [dq a.major b.major,dq a.minor b.minor,dq a.patch b.patch].length=0):
  fM (fun i=>[dq a.major b.major,dq a.minor b.minor,dq a.patch b.patch][i]!) 0 [dq a.major b.major,dq a.minor b.minor,dq a.patch b.patch].length=iL a b:=by
 grind [Wx,iL]
def VZ {a b:bZ}(hv:¬(gy a=false\/gy b=false))(h1:dq a.major b.major=0)(h2:dq a.minor b.minor=0)(h3:dq a.patch b.patch=0):iL a b=Bc a.pre b.pre:=by
 grind [iL]
def abK {a b:bZ}(h1:dq a.major b.major=0)(h2:dq a.minor b.minor=0)(h3:dq a.patch b.patch=0)(h4:a.pre=b.pre):rX a=rX b:=by
 unfold rX;rw[yL.1 h1,yL.1 h2,yL.1 h3,h4]
def Ta (a:bZ):iL a a=0:=Fk rfl
def LI (a b:bZ):Bool:=gy a&&gy b&&decide (iL a b=0)
def FJ {v:bZ}(h:gy v=true):LI v v=true:=by simp[LI,h,Ta]
def Cut.sm (c:Cut):Prop:=c.v.sm
def Span.sm (s:Span):Prop:=s.f.sm/\s.t.sm
def zN (l:List Span):Prop:=∀s∈l,s.sm
def cy.sm (s:cy):Prop:=zN s.rel/\zN s.pr
def Want.sm (w:Want):Prop:=w.s.sm
def ei.sm (c:ei):Prop:=c.v.sm/\(∀r∈c.needs,∀w∈r,w.sm)/\∀w∈c.bars,w.sm
def c9.sm (u:c9):Prop:=u.cands.length<=16/\∀c∈u.cands,c.sm
def b6.sm (w:b6):Prop:=∀u∈w.us,u.sm
def zV:bZ:=⟨0,0,0,[],[]⟩
def pI (c:Cut):Bool:=if c.e=0 then gy c.v&&decide (c.v.build=[])else(decide (c.e=-1) ||decide (c.e=1))&&decide (c.v=zV)&& !c.a
def kV (a b:Cut):Int:=if pI a=false\/pI b=false then 0 else if a.e≠0\/b.e≠0 then dq a.e b.e else
 if iL a.v b.v≠0 then iL a.v b.v else if a.a=b.a then 0 else if b.a=true then-1 else 1
def qa (s:Span):Bool:=pI s.f&&pI s.t&&decide (kV s.f s.t<0)
def jX (c:Cut)(v:bZ):Bool:=if pI c=false\/gy v=false then false else if c.e≠0 then decide (c.e<0)else decide (iL c.v v<0) ||(decide (iL c.v v=0)&& !c.a)
def sj (s:Span)(v:bZ):Bool:=qa s&&gy v&&jX s.f v&& !jX s.t v
def Bh (l:List Span)(i:Nat):Bool:=qa l[i]! && !(decide (0<i)&&decide (0<=kV l[i-1]!.t l[i]!.f))
def sO (l:List Span):Bool:=bO (Bh l) 0 l.length
def oA (f:Nat->Bool)(i n:Nat):Bool:=!bO (fun i=>!f i) i n
def jU {f:Nat->Bool}{i n:Nat}(h:i<n):oA f i n=(f i ||oA f (i+1) n):=by
 unfold oA;rw[ay h];simp
def td {f:Nat->Bool}{i n:Nat}(h:n<=i):oA f i n=false:=by
 unfold oA;rw[bB h];rfl
def wI {f:Nat->Bool}{i n:Nat}:oA f i n=true↔∃j,i<=j/\j<n/\f j=true:=by
 unfold oA;rw[cG,<-Bool.not_eq_true,cb];simp
def vY (l:List Span)(v:bZ):Bool:=sO l&&oA (fun i=>sj l[i]! v) 0 l.length
def vL (v:bZ):Bool:=decide (v.major=0)&&decide (v.minor=0)&&decide (v.patch=0)
def mH (c:Cut):Bool:=decide (c.e≠0) ||(!c.a&&decide (c.v.pre=[])&& !vL c.v)
def rC (c:Cut):Bool:=decide (c.e≠0) ||(!c.a&&decide (c.v.pre=[])&& !decide (c.v=zV))
def wc (s:cy):Bool:=sO s.rel&&sO s.pr&&bO (fun i=>mH s.rel[i]!.f&&mH s.rel[i]!.t) 0 s.rel.length
def afb (s:cy):Bool:=bO (fun i=>rC s.rel[i]!.f&&rC s.rel[i]!.t) 0 s.rel.length&&(sO s.rel&&sO s.pr)
def pM (s:cy)(v:bZ):Bool:=wc s&&gy v&&(if v.pre=[]then vY s.rel v else vY s.pr v)
def DT {c:Cut}(h:pI c=true):rC c=mH c:=by
 obtain⟨e,⟨a,b,c,p,q⟩,f⟩:=c;by_cases he:e=0
 .simp only[pI,he,aZ,aN,bn]at h;obtain⟨_,rfl⟩:=h;simp only[rC,mH,vL,zV,bZ.mk.injEq];by_cases h1:p=[]<;>by_cases h2:a=0<;>by_cases h3:b=0<;>by_cases h4:c=0<;>simp[h1,h2,h3,h4]
 .simp[rC,mH,he]
def Zg {l:List Span}(h:sO l=true){i:Nat}(hi:i<l.length):pI l[i]!.f=true/\pI l[i]!.t=true:=by
 unfold sO at h;rw[cb]at h;have:=h i ae hi;simp only[Bh,qa,aN]at this;exact⟨this.1.1.1,this.1.1.2⟩
def adD (s:cy):afb s=wc s:=by
 unfold afb wc;cases h:sO s.rel with
 |false=>simp
 |true=>
  have:bO (fun i=>rC s.rel[i]!.f&&rC s.rel[i]!.t) 0 s.rel.length=bO (fun i=>mH s.rel[i]!.f&&mH s.rel[i]!.t) 0 s.rel.length:=by
   rw[Bool.eq_iff_iff,cb,cb];constructor<;>intro g j h1 h2<;>have q:=Zg h h2<;>have:=g j h1 h2<;>rw[DT q.1,DT q.2]at* <;>exact this
  rw[this];cases sO s.pr<;>simp
def Cj:Cut:=⟨-1,zV,false⟩
def Lj:Cut:=⟨1,zV,false⟩
def GO (v:bZ):Cut:=⟨0,rX v,false⟩
def abp (v:bZ):Cut:=⟨0,rX v,true⟩
def Uu (v:bZ):bZ:=⟨v.major,v.minor,v.patch,[],[]⟩
def QG (v:bZ)(p:Int):bZ:=if p=0 then⟨v.major+1,0,0,[],[]⟩else if p=1 then⟨v.major,v.minor+1,0,[],[]⟩else⟨v.major,v.minor,v.patch+1,[],[]⟩
def QF (v:bZ)(p:Int):bZ×Bool:=if gy v=false\/p<0\/2<p then(zV,false)else if gy (QG v p)=false then(zV,false)else(QG v p,true)
def Rt (v:bZ):Nat->bZ×Bool
 |0=>(zV,false)
 |n+1=>if(QF v (n:Int)).2=true then((QF v (n:Int)).1,true)else Rt v n
def Ru (v:bZ):bZ×Bool:=if gy v=false then(zV,false)else if v.pre≠[]then(Uu v,true)else Rt v 3
def NH (v:bZ):Cut:=if vL v=true then Cj else GO (Uu v)
def behC (v:bZ):Cut:=if(Ru (Uu v)).2=false then Lj else GO (Ru (Uu v)).1
def Rw:cy:=⟨[],[]⟩
def PU:List Span:=[⟨Cj,Lj⟩]
def pD:cy:=⟨PU,PU⟩
def er (v:bZ):cy:=if gy v=false then Rw else if v.pre≠[]then⟨[],[⟨GO v,abp v⟩]⟩else⟨[⟨NH v,behC v⟩],[]⟩
def RowS (l:List Span):Prop:=zN l/\l.length<=1000
def SetS (s:cy):Prop:=RowS s.rel/\RowS s.pr
def Gx:zV.sm:=by simp[zV,bZ.sm]
def yS:Cj.sm:=Gx
def CN:Lj.sm:=Gx
def Bv {v:bZ}(h:v.sm):(rX v).sm:=⟨h.1,by simp[rX]⟩
def RY (v:bZ):(Uu v).sm:=by simp[Uu,bZ.sm]
def VP (v:bZ)(p:Int):(QG v p).sm:=by unfold QG;split<;>(try split)<;>simp[bZ.sm]
def VO (v:bZ)(p:Int):(QF v p).1.sm:=by unfold QF;split<;>(try split)<;>first|exact Gx|exact VP v p
def LB (v:bZ):∀n,(Rt v n).1.sm
 |0=>Gx
 |n+1=>by
  rw[Rt];split
  .exact VO v _
  .exact LB v n
def XI (v:bZ):(Ru v).1.sm:=by
 unfold Ru;repeat' split
 all_goals first|exact Gx|exact RY v|exact LB v _
def Hm:zN []:=fun _ h=>by cases h
def S1 (v:bZ):(NH v).sm:=by
 unfold NH;split
 .exact yS
 .exact Bv (RY v)
def abo (v:bZ):(behC v).sm:=by
 unfold behC;split
 .exact CN
 .exact Bv (XI _)
def Fp {v:bZ}(h:v.sm):(er v).sm:=by
 unfold er;split
 .exact⟨Hm,Hm⟩
 .split
  .exact⟨Hm,fun x hx=>by obtain rfl:=aC.1 hx;exact⟨Bv h,Bv h⟩⟩
  .exact⟨fun x hx=>by obtain rfl:=aC.1 hx;exact⟨S1 v,abo v⟩,Hm⟩
def abj:pD.sm:=⟨fun x hx=>by obtain rfl:=aC.1 hx;exact⟨yS,CN⟩,fun x hx=>by obtain rfl:=aC.1 hx;exact⟨yS,CN⟩⟩
structure Key where
 n:av
 f:av
 deriving Inhabited
def Key.D (k:Key):D:=.agg [.str k.n,.str k.f]
def sT (n:Int)(w:Want):Bool:=decide (0<w.u)&&decide (w.u<n)&&wc w.s
def pn (n:Int)(l:List Want):Bool:=bO (fun i=>sT n l[i]!) 0 l.length
def rB (n:Int)(l:List Want):Bool:=pn n l&&(decide (0<l.length)&&decide (l.length<=24))
def mM (n:Int)(c:ei):Bool:=decide (c.needs.length<=24)&&decide (c.bars.length<=24)&&bO (fun i=>rB n c.needs[i]!) 0 c.needs.length&&pn n c.bars
def Hu (a b:Key):Int:=if pH a.n b.n≠0 then pH a.n b.n else pH a.f b.f
def kA (a b:c9):Bool:=Op.bytesLess a.name b.name ||(decide (a.name=b.name)&&Op.bytesLess a.feat b.feat)
def oG (n:Int)(cs:List ei)(k:Nat):Bool:=gy cs[k]!.v&&mM n cs[k]! && !(decide (0<k)&&decide (0<=iL cs[k-1]!.v cs[k]!.v))
def mY (us:List c9)(i:Nat):Bool:=!(decide (0<i)&&decide (us[i]!.name=[]))&& !(decide (1<i)&& !kA us[i-1]! us[i]!)&&decide (us[i]!.cands.length<=16)&&bO (oG us.length us[i]!.cands) 0 us[i]!.cands.length
def xl (us:List c9):Bool:=decide (us[0]!.name=[])&&decide (us[0]!.feat=[])&&decide (us[0]!.cands.length=1)
def fN (w:b6):Bool:=decide (1<=w.us.length)&&decide (w.us.length<=48)&&xl w.us&&bO (mY w.us) 0 w.us.length
def sR (us:List c9)(i:Nat):Bool:=mY us i&& !(decide (i=0)&& !xl us)
def sn (a:av):Op.bytesLess a a=false:=by
 induction a with
 |nil=>rfl
 |cons x r ih=>unfold Op.bytesLess;simp[ih]
def TY (a b:c9):decide (0<=Hu ⟨a.name,a.feat⟩ ⟨b.name,b.feat⟩)=!kA a b:=by
 unfold Hu kA pH;have h:=sn b.name;by_cases h1:Op.bytesLess a.name b.name=true<;>by_cases h2:a.name=b.name<;>by_cases h3:Op.bytesLess a.feat b.feat=true<;>by_cases h4:a.feat=b.feat<;>simp_all
def Ee (w:b6):fN w=(decide (1<=w.us.length)&&decide (w.us.length<=48)&&bO (sR w.us) 0 w.us.length):=by
 unfold fN;by_cases h:1<=w.us.length
 .have:bO (sR w.us) 0 w.us.length=(xl w.us&&bO (mY w.us) 0 w.us.length):=by
   rw[Bool.eq_iff_iff,aN,cb,cb];simp only[sR,aN,cG,eo,cK];constructor
   .intro g;have h0:=(g 0 ae ae).2;exact⟨by rcases h0 with h0|h0;exact absurd rfl h0;simpa using h0,fun j h1 h2=>(g j h1 h2).1⟩
   .rintro⟨g1,g2⟩ j h1 h2;exact⟨g2 j h1 h2,.inr (by simpa using g1)⟩
  rw[this];simp only[Bool.and_assoc]
 .simp[h]
def iCut (a b:Cut):Cut.D a=Cut.D b↔a=b:=by
 obtain⟨e,⟨v1,v2,v3,v4,v5⟩,x⟩:=a;obtain⟨e',⟨w1,w2,w3,w4,w5⟩,x'⟩:=b;simp[Cut.D,and_assoc]
def aeM (a b:List Cut):a.map Cut.D=b.map Cut.D↔a=b:=kL iCut a b
def W0 (a b:Span):Span.D a=Span.D b↔a=b:=by
 obtain⟨⟨e,⟨v1,v2,v3,v4,v5⟩,x⟩,⟨f,⟨u1,u2,u3,u4,u5⟩,y⟩⟩:=a;obtain⟨⟨e',⟨w1,w2,w3,w4,w5⟩,x'⟩,⟨f',⟨t1,t2,t3,t4,t5⟩,y'⟩⟩:=b;simp[Span.D,and_assoc]
def CG (a b:List Span):a.map Span.D=b.map Span.D↔a=b:=kL W0 a b
def iSet (a b:cy):cy.D a=cy.D b↔a=b:=by cases a;cases b;simp[cy.D,CG]
def W3 (a b:Want):Want.D a=Want.D b↔a=b:=by
 obtain⟨u,⟨x,y⟩⟩:=a;obtain⟨u',⟨x',y'⟩⟩:=b;simp[Want.D,CG]
def G2 (a b:List Want):a.map Want.D=b.map Want.D↔a=b:=kL W3 a b
def W5 (a b:oz):jC a=jC b↔a=b:=by simp[jC,G2]
def N9 (a b:List oz):a.map jC=b.map jC↔a=b:=kL W5 a b
def iCnd (a b:ei):ei.D a=ei.D b↔a=b:=by
 obtain⟨⟨v1,v2,v3,v4,v5⟩,s,x,y⟩:=a;obtain⟨⟨w1,w2,w3,w4,w5⟩,s',x',y'⟩:=b;simp[ei.D,N9,G2,and_assoc]
def WR (a b:List ei):a.map ei.D=b.map ei.D↔a=b:=kL iCnd a b
def iUnt (a b:c9):c9.D a=c9.D b↔a=b:=by cases a;cases b;simp[c9.D,WR]
def W2 (a b:List c9):a.map c9.D=b.map c9.D↔a=b:=kL iUnt a b
def iWld (a b:b6):b6.D a=b6.D b↔a=b:=by cases a;cases b;simp[b6.D,W2]
def iTrm (a b:dU):dU.D a=dU.D b↔a=b:=by cases a;cases b;simp[dU.D]
def aeR (a b:List dU):a.map dU.D=b.map dU.D↔a=b:=kL iTrm a b
def iKey (a b:Key):Key.D a=Key.D b↔a=b:=by cases a;cases b;simp[Key.D]
def iGs (a b:Gs):Gs.D a=Gs.D b↔a=b:=by cases a;cases b;simp[Gs.D,Tt]
end Go.Abs
section
namespace Go.Abs
variable {Y:Ctx}(hm:(Y.at 0).bR)
structure de where
 name:av
 range:av
 feats:List av
 bare:Bool
 deriving Inhabited,DecidableEq
def de.D (x:de):D:=.agg [.str x.name,.str x.range,.sl 1 (x.feats.map D.str),.bool x.bare]
structure br where
 any:List de
 when':av
 option:av
 deriving Inhabited,DecidableEq
def br.D (x:br):D:=.agg [.sl 4 (x.any.map de.D),.str x.when',.str x.option]
structure my where
 name:av
 range:av
 when':av
 deriving Inhabited,DecidableEq
def my.D (x:my):D:=.agg [.str x.name,.str x.range,.str x.when']
structure ch where
 name:av
 of:List av
 deriving Inhabited,DecidableEq
def ch.D (x:ch):D:=.agg [.str x.name,.sl 1 (x.of.map D.str)]
structure Rec where
 name:av
 v:bZ
 needs:List br
 bars:List my
 feats:List ch
 deriving Inhabited,DecidableEq
def Rec.D (x:Rec):D:=.agg [.str x.name,.int .i64 x.v.major,.int .i64 x.v.minor,.int .i64 x.v.patch,.str x.v.pre,.str x.v.build,.sl 3 (x.needs.map br.D),.sl 3 (x.bars.map my.D),.sl 2 (x.feats.map ch.D)]
structure Cmp where
 op:Int
 parts:Int
 v:bZ
 deriving Inhabited,DecidableEq
def Cmp.D (x:Cmp):D:=.agg [.int .i64 x.op,.int .i64 x.parts,.int .i64 x.v.major,.int .i64 x.v.minor,.int .i64 x.v.patch,.str x.v.pre,.str x.v.build]
structure Nd where
 op:Int
 a:Int
 b:Int
 key:Int
 text:av
 deriving Inhabited,DecidableEq
def Nd.D (x:Nd):D:=.agg [.int .i64 x.op,.int .i64 x.a,.int .i64 x.b,.int .i64 x.key,.str x.text]
def my.eq (a b:my):hR (my.D a).cells (my.D b).cells=decide (a=b):=by
 obtain⟨a1,a2,a3⟩:=a;obtain⟨b1,b2,b3⟩:=b
 grind [my.D,D.cells,hR,tj]
def de.same {a b:de}(e1:a.name=b.name)(e2:a.range=b.range)(e3:a.bare=b.bare):decide (a=b)=decide (a.feats=b.feats):=by
 obtain⟨a1,a2,a3,a4⟩:=a;obtain⟨b1,b2,b3,b4⟩:=b
 grind
def rising (l:List av):Bool:=bO (fun i=>Op.bytesLess l[i-1]! l[i]!) 1 l.length
def bL (s:av):Int×av×av:=
 if gr s=true then(1,s,[])
 else if s.length>0/\at8 s 0=63/\gr (s.drop 1)=true then(2,s.drop 1,[])
 else if(bd s 47).length=2/\dn (bd s 47)[0]! =true/\gr (bd s 47)[1]! =true then(3,(bd s 47)[0]!,(bd s 47)[1]!)
 else(0,[],[])
def findF (l:List ch)(nm:av)(i:Nat):Int:=match(l.drop i).findIdx? (fun x=>decide (x.name=nm))with
 |some k=>((i+k:Nat):Int)
 |none=>-1
def Wu {l:List ch}{nm:av}{i:Nat}(h:i<l.length)(he:l[i]!.name=nm):findF l nm i=(i:Nat):=by
 unfold findF;rw[eV h,List.findIdx?_cons]
 grind
def Wv {l:List ch}{nm:av}{i:Nat}(h:i<l.length)(he:¬l[i]!.name=nm):findF l nm i=findF l nm (i+1):=by
 unfold findF;have:¬l[i].name=nm:=by simpa[h]using he
 rw[eV h,List.findIdx?_cons]
 grind
def Tg {l:List ch}{nm:av}{i:Nat}(h:l.length<=i):findF l nm i=-1:=by
 unfold findF;rw[j4 h];rfl
def nM:av:=[100,101,102,97,117,108,116]
def isF (l:List ch)(nm:av):Bool:=decide (nm=nM) ||decide (0<=findF l nm 0)
def aiL (l:List ch)(s:av):Bool:=!(decide ((bL s).1=0) ||(decide ((bL s).1=1)&& !isF l (bL s).2.1))
def Xa (l:List ch)(of:List av):Bool:=decide (of.length<=6)&&rising of&&bO (fun i=>aiL l of[i]!) 0 of.length
def Wn (l:List ch)(i:Nat):Bool:=gr l[i]!.name&& !(decide (0<i)&& !Op.bytesLess l[i-1]!.name l[i]!.name)&&Xa l l[i]!.of
def ee (l:List ch):Bool:=decide (l.length<=8)&&bO (Wn l) 0 l.length
def ch.sm (x:ch):Prop:=x.name.length<=1048576/\x.of.length<=1048576/\∀t∈x.of,t.length<=1048576
def ofL:List (List av):=[[],[[63,111]],[[97,110,116,47,102]],[[98,101,101,47,102]],[[99,111,119,47,102]],[[100,111,103,47,102]],[[63,111],[97,110,116,47,102]],[[63,111],[98,101,101,47,102]],[[63,111],[99,111,119,47,102]],[[63,111],[100,111,103,47,102]]]
def Cd:List (List ch):=[]::ofL.map fun o=>[⟨[102],o⟩]
def jm (l:List ch):Prop:=l∈Cd
def Fy (b:av):∀(l:List av) (i:Nat),(cv b (l.take i)).length<=(cv b l).length
 |[],i=>aG
 |[t],0=>by simp[cv]
 |[t],i+1=>aG
 |t::u::r,0=>by simp[cv]
 |t::u::r,1=>by simp[cv]
 |t::u::r,i+2=>by
  have:=Fy b (u::r) (i+1)
  grind [cv]
def CJ (b t:av):∀(l:List av),l≠[]->cv b (l++[t])=cv b l++b++t
 |[],h=>absurd rfl h
 |[u],_=>by simp[cv]
 |u::v::r,_=>by
  have:=CJ b t (v::r) aG
  grind [cv]
def CL (b:av)(l:List av)(i:Nat)(h:i<l.length):cv b (l.take (i+1))=(if 0<i then cv b (l.take i)++b else [])++l[i]! :=by
 have e:l.take (i+1)=l.take i++[l[i]!]:=by
  rw[List.take_add_one,List.getElem?_eq_getElem h];simp[h]
 rw[e];by_cases h0:0<i
 .rw[ak h0,CJ _ _ _ (by intro hn;have:=aw List.length hn;simp only[eg,b7]at this;omega)]
 grind [cv]
end Go.Abs
namespace Go.Abs
variable {Y:Ctx}(hm:(Y.at 0).bR)
end Go.Abs
end
namespace Go.Abs
variable {Y:Ctx}(hm:(Y.at 0).bR)
def jh:av->av->List av
 |[],cur=>[cur]
 |[c],cur=>[cur++[c]]
 |c::d::r,cur=>if c=124/\d=124 then cur::jh r []else jh (d::r) (cur++[c])
def zP:av->av
 |[]=>[]
 |c::r=>if c=32 then zP r else c::r
def B4 (s:av):av:=(zP (zP s).reverse).reverse
def j2:List av:=[[42],[94,49,46,48,46,48],[61,49,46,50,46,48],[62,61,49,46,50,46,48],[60,50,46,48,46,48],[94,50,46,48,46,48,45,97,46,49],[61,49,46,48,46,48,32,124,124,32,61,50,46,48,46,48],[33,61,49,46,50,46,48]]
def Ly:List av:=[[],[111,115,32,61,32,108,105,110,117,120],[111,115,32,33,61,32,108,105,110,117,120]]
def Ty:List av:=[[63,111],[97,110,116,47,102],[98,101,101,47,102],[99,111,119,47,102],[100,111,103,47,102]]
def qN (s:av):Bool:=j2.contains s
def xy (s:av):Bool:=Ly.contains s
def ki (s:av):Prop:=s∈j2
def oQ (s:av):Prop:=s∈Ly
def rr (s:av):Prop:=s∈Ty
def ki.len {s:av}(h:ki s):s.length<=1048576:=by
 have:∀s∈j2,s.length<=1048576:=aT
 exact this s h
def oQ.len {s:av}(h:oQ s):s.length<=1048576:=by
 have:∀s∈Ly,s.length<=1048576:=aT
 exact this s h
def rr.len {s:av}(h:rr s):s.length<=1048576:=by
 have:∀s∈Ty,s.length<=1048576:=aT
 exact this s h
theorem jm.sm {l:List ch}(h:jm l):∀x∈l,x.sm:=by
 have:∀l∈Cd,∀x∈l,x.name.length<=1048576/\x.of.length<=1048576/\∀t∈x.of,t.length<=1048576:=aT
 exact this l h
def jm.it {l:List ch}(h:jm l):∀x∈l,∀s∈x.of,rr s:=by
 have:∀l∈Cd,∀x∈l,∀s∈x.of,s∈Ty:=aT
 exact this l h
def qB (f:Nat->Int):Nat->Nat->Int×Int
 |_,0=>(0,0)
 |i,k+1=>if f i=0 then qB f (i+1) k else(f i,((i:Nat):Int))
def gO (f:Nat->Int)(i n:Nat):Int×Int:=qB f i (n-i)
def j9 {f:Nat->Int}{i n:Nat}(h:i<n)(hf:f i=0):gO f i n=gO f (i+1) n:=by
 unfold gO;obtain⟨k,hk⟩:∃k,n-i=k+1:=⟨n-i-1,ae⟩
 grind [qB]
def gP {f:Nat->Int}{i n:Nat}(h:i<n)(hf:f i≠0):gO f i n=(f i,((i:Nat):Int)):=by
 unfold gO;obtain⟨k,hk⟩:∃k,n-i=k+1:=⟨n-i-1,ae⟩
 rw[hk];simp only[qB,hf,aU]
def j8 {f:Nat->Int}{i n:Nat}(h:n<=i):gO f i n=(0,0):=by
 unfold gO;rw[show n-i=0 by omega];rfl
def gM (r:Rec)(name rng:av):Int:=if dn name=false then 4 else if name=r.name then 8 else if qN rng=false then 6 else 0
def wfB (l:List av)(i:Nat):Bool:=gr l[i]! && !(decide (0<i)&& !Op.bytesLess l[i-1]! l[i]!)
def nB (l:List av)(alone:Bool):Bool:=(decide (l.length<=6)&&(alone ||decide (l.length=0)))&&bO (wfB l) 0 l.length
def lj (r:Rec)(w:de)(alone:Bool):Int:=if gM r w.name w.range≠0 then gM r w.name w.range else if nB w.feats alone=false then 11 else 0
def nC (r:Rec)(l:List de):Int:=fM (fun i=>lj r l[i]! (decide ((l.length:Int)=1))) 0 l.length
def jz (r:Rec)(n:br):Int:=if n.any.length=0 then 9 else if 3<n.any.length then 3 else if nC r n.any≠0 then nC r n.any else
 if xy n.when'=false then 7 else if n.option≠[]/\gr n.option=false then 14 else 0
def rR (r:Rec)(b:my):Int:=if gM r b.name b.range≠0 then gM r b.name b.range else if xy b.when'=false then 7 else 0
def XZ (l:List br)(x:av):Bool:=l.any fun n=>decide (n.option=x)
def LW (l:List br)(x:av):Bool:=l.any fun n=>decide (n.any.length=1)&&decide (n.any[0]!.name=x)
def nU (r:Rec)(s:av):Int:=if(bL s).1=2/\XZ r.needs (bL s).2.1=false then 14 else if(bL s).1=3/\LW r.needs (bL s).2.1=false then 16 else 0
def mC (r:Rec)(of:List av):Int:=fM (fun i=>nU r of[i]!) 0 of.length
def lA (r:Rec):Int×Int:=gO (fun i=>jz r r.needs[i]!) 0 r.needs.length
def uN (r:Rec):Int×Int:=gO (fun i=>rR r r.bars[i]!) 0 r.bars.length
def GX (r:Rec):Int×Int:=gO (fun i=>mC r r.feats[i]!.of) 0 r.feats.length
def ef (r:Rec):Int×Int:=if(lA r).1≠0 then lA r else if(uN r).1≠0 then uN r else if ee r.feats=false then(11,0)else GX r
def ZO (n:Nat)(al:Bool):(decide ((6:Int)<(n:Nat)) ||(decide ((0:Int)<(n:Nat))&& !al))=!(decide (n<=6)&&(al ||decide (n=0))):=by
 grind
def wf_c (l:List av)(i:Nat):(!gr l[i]! ||(decide ((0:Int)<(i:Nat))&& !Op.bytesLess l[i-1]! l[i]!))=!wfB l i:=by
 unfold wfB
 grind
def wf_2 (l:List av)(al:Bool):(bO (fun i=>gr l[i]!) 0 l.length&&((decide (l.length<=6)&&rising l)&&(al ||decide (l.length=0))))=nB l al:=by
 grind [bO,wfB,gr,rising,cb,nB]
def itC (k:Int)(x:av)(n:br):Bool:=(decide (k=2)&&decide (n.option=x)) ||((decide (k=3)&&decide ((n.any.length:Int)=1))&&decide (n.any[0]!.name=x))
def itE (k:Int):Int:=if k=2 then 14 else if k=3 then 16 else 0
def W9 (r:Rec)(s:av):nU r s=if r.needs.any (itC (bL s).1 (bL s).2.1)=true then 0 else itE (bL s).1:=by
 grind [nU,itE,XZ,LW,bL,itC]
def wK {α:Type} [Inhabited α]{c:α->Bool}{l:List α}{i:Nat}(h:i<l.length)(hc:c l[i]! =true):(l.drop i).any c=true:=by
 rw[eV h,List.any_cons]
 grind
def B0 {α:Type} [Inhabited α]{c:α->Bool}{l:List α}{i:Nat}(h:i<l.length)(hc:c l[i]! =false):(l.drop i).any c=(l.drop (i+1)).any c:=by
 rw[eV h,List.any_cons]
 grind
def wJ {α:Type}{c:α->Bool}{l:List α}{i:Nat}(h:l.length<=i):(l.drop i).any c=false:=by
 rw[j4 h];rfl
def Gm:av:=[110,101,101,100]
def rK:av:=[97,110,121]
def yw:av:=[119,104,101,110]
def nA:av:=[111,112,116,105,111,110]
def zy:av:=[98,97,114]
def jQ:av:=[102,101,97,116,117,114,101]
def qe:av:=[112,97,99,107,97,103,101]
def rH:av:=[102,117,108,108]
def rE:av:=[98,97,114,101]
def cw (l:List av):av:=cv [32] l++[10]
def sU (w:de):List av:=[rK,w.name,if w.feats.length=0 then [45]else cv [44] w.feats,if w.bare=true then rE else rH,w.range]
def kn (s:av):av:=if s=[]then []else cw [yw,s]
def xN (s:av):av:=if s=[]then []else cw [nA,s]
def Af (n:br):av:=cw [Gm]++(n.any.map fun w=>cw (sU w)).flatten++kn n.when'++xN n.option
def GM (b:my):av:=cw [zy,b.name,b.range]++kn b.when'
def w9 (f:ch):av:=cw ([jQ,f.name]++f.of)
def uS (r:Rec):av:=cw [qe,r.name,uI r.v]
def D4 (r:Rec):av:=uS r++(r.needs.map Af).flatten++(r.bars.map GM).flatten++(r.feats.map w9).flatten
def c7 (r:Rec):Int×Int:=if dn r.name=false then(4,0)else if gy r.v=false then(5,0)else if 8<r.needs.length\/8<r.bars.length then(3,0)else
 if(ef r).1≠0 then ef r else if 4096<(D4 r).length then(3,0)else(0,0)
def fg (r:Rec):av×Int:=if(c7 r).1≠0 then([],(c7 r).1)else(D4 r,0)
def de.sm (w:de):Prop:=(w.name.length<=1048576/\ki w.range)/\∀t∈w.feats,t.length<=1048576
def br.sm (n:br):Prop:=(∀w∈n.any,w.sm)/\oQ n.when'/\n.option.length<=1048576
def my.sm (b:my):Prop:=b.name.length<=1048576/\ki b.range/\oQ b.when'
def ic (r:Rec):Prop:=(r.name.length<=1048576/\r.v.sm)/\(∀n∈r.needs,n.sm)/\(∀b∈r.bars,b.sm)/\jm r.feats
def LO {r:Rec}{e:Int×Int}(h:lA r=e)(hn:e.1≠0):ef r=e:=by grind [ef]
def Da {r:Rec}{e:Int×Int}(h0:lA r=(0,0))(h:uN r=e)(hn:e.1≠0):ef r=e:=by grind [ef]
def LP {r:Rec}(h0:lA r=(0,0))(h1:uN r=(0,0))(h:ee r.feats=false):ef r=(11,0):=by grind [ef]
def xR {r:Rec}{e:Int×Int}(h0:lA r=(0,0))(h1:uN r=(0,0))(h:ee r.feats=true)(h2:GX r=e):ef r=e:=by grind [ef]
def Co (f:Nat->Int):∀(k i:Nat),(qB f i k).1=0->qB f i k=(0,0)
 |0,_,_=>rfl
 |k+1,i,h=>by
  simp only[qB]at h⊢;by_cases hf:f i=0
  .rw[ak hf]at h⊢;exact Co f k (i+1) h
  .rw[ai hf]at h;exact absurd h hf
def LR {r:Rec}(h:(ef r).1=0):ef r=(0,0):=by
 unfold ef at h⊢;split
 .rename_i h1;rw[ak h1]at h;exact absurd h h1
 .rename_i h1;rw[ai h1]at h;split
  .rename_i h2;rw[ak h2]at h;exact absurd h h2
  .rename_i h2;rw[ai h2]at h;split
   .rename_i h3;rw[ak h3]at h;cases h
   .rename_i h3;rw[ai h3]at h;exact Co _ _ _ h
def pG {r:Rec}{e:Int×Int}(h0:dn r.name=true)(h1:gy r.v=true)(h2:¬8<r.needs.length)(h3:¬8<r.bars.length)(hp:ef r=e)(hn:e.1≠0):c7 r=e:=by
 grind [c7]
def wT {r:Rec}(h0:dn r.name=true)(h1:gy r.v=true)(h2:¬8<r.needs.length)(h3:¬8<r.bars.length)(hp:ef r=(0,0)):c7 r=if 4096<(D4 r).length then(3,0)else(0,0):=by
 grind [c7]
def Fv (r:Rec):Prop:=(dn r.name=true/\gy r.v=true)/\(r.needs.length<=8/\r.bars.length<=8)/\ef r=(0,0)
def Cm {f:Nat->Int}:∀{k i:Nat},se f i k=0->∀j,i<=j->j<i+k->f j=0
 |0,i,_,j,h1,h2=>absurd h2 ae
 |k+1,i,h,j,h1,h2=>by
  simp only[se]at h;by_cases hf:f i=0
  .rw[ak hf]at h;by_cases hj:j=i
   .rw[hj];exact hf
   .exact Cm h j ae ae
  .rw[ai hf]at h;exact absurd h hf
def Ck {f:Nat->Int}{n:Nat}(h:fM f 0 n=0)(j:Nat)(hj:j<n):f j=0:=Cm h j ae ae
def Cn {f:Nat->Int}:∀{k i:Nat},(qB f i k).1=0->∀j,i<=j->j<i+k->f j=0
 |0,i,_,j,h1,h2=>absurd h2 ae
 |k+1,i,h,j,h1,h2=>by
  simp only[qB]at h;by_cases hf:f i=0
  .rw[ak hf]at h;by_cases hj:j=i
   .rw[hj];exact hf
   .exact Cn h j ae ae
  .rw[ai hf]at h;exact absurd h hf
def qA {f:Nat->Int}{n:Nat}(h:(gO f 0 n).1=0)(j:Nat)(hj:j<n):f j=0:=Cn h j ae ae
def de.fit (w:de):Prop:=w.sm/\(w.feats.length<=6/\∀t∈w.feats,t.length<=12)
def br.fit (n:br):Prop:=(n.any.length<=3/\∀w∈n.any,w.fit)/\n.when'.length<=1048576/\n.option.length<=1048576
def ch.fit (x:ch):Prop:=x.sm/\x.of.length<=6
structure Rec.fit (r:Rec):Prop where
 nm:r.name.length<=1048576
 v:r.v.sm
 ns:r.needs.length<=8
 n:∀x∈r.needs,x.fit
 bs:r.bars.length<=8
 b:∀x∈r.bars,x.sm
 fs:r.feats.length<=8
 f:∀x∈r.feats,x.fit
theorem fU {α:Type} [Inhabited α]{l:List α}{x:α}(h:x∈l):∃i,i<l.length/\l[i]! =x:=by
 obtain⟨i,hi,e⟩:=List.mem_iff_getElem.1 h;exact⟨i,hi,by rw[<-e];simp[hi]⟩
def ZP {r:Rec}{w:de}{al:Bool}(h:lj r w al=0)(hs:w.sm):w.fit:=by
 refine⟨hs, ?_⟩
 grind [lj,nB,cb,fU,wfB,gr]
def XF {r:Rec}{n:br}(h:jz r n=0)(hs:n.sm):n.fit:=by
 unfold jz at h;split at h
 .cases h
 split at h
 .cases h
 rename_i h1 h2;split at h
 .rename_i h3;exact absurd h h3
 rename_i h3;refine⟨⟨ae,fun w hw=>?_⟩,hs.2.1.len,hs.2.2⟩;obtain⟨i,hi,rfl⟩:=fU hw;exact ZP (Ck (Classical.not_not.1 h3) i hi) (hs.1 _ hw)
def tn {r:Rec}(h:Fv r/\ic r):r.fit:=by
 obtain⟨⟨_,⟨h1,h2⟩,hp⟩,⟨s1,s2⟩,s3,s4,s5⟩:=h;have h0:(lA r).1=0/\ee r.feats=true:=by
  grind [ef]
 obtain⟨h3,h4⟩:=h0;simp only[ee,aN,bn,cb]at h4;refine⟨s1,s2,h1,fun x hx=>?_,h2,s4,h4.1,fun x hx=>⟨s5.sm x hx, ?_⟩⟩
 .obtain⟨i,hi,rfl⟩:=fU hx;exact XF (qA h3 i hi) (s3 _ hx)
 grind [fU,Wn,Xa]
def pP (x:UInt8)(B:Nat):∀l:List av,(∀t∈l,t.length<=B)->(cv [x] l).length<=l.length*(B+1)
 |[],_=>by simp[cv]
 |[t],h=>by have:=h t (.head _);simp only[cv,bE,b7];omega
 |t::u::r,h=>by
  have h1:=h t (.head _);have h2:=pP x B (u::r) fun y hy=>h y (.tail _ hy)
  simp only[cv,ct,bE,b7,Nat.succ_mul]at h2⊢;omega
def Ed {w:de}(h:w.fit):(cv [44] w.feats).length<=6291462:=by
 have h1:=pP 44 1048576 w.feats h.1.2;have h2:=fH (1048576+1) h.2.1;omega
def Io {w:de}(h:w.fit):(cv [44] w.feats).length<=78:=by
 have h1:=pP 44 12 w.feats h.2.2;have h2:=fH (12+1) h.2.1;omega
def jR (w:de):av:=cw (sU w)
def zz {w:de}(h:w.fit):(jR w).length<=8400000:=by
 have h1:=Ed h;have h2:=And.intro h.1.1.1 h.1.1.2.len;simp only[jR,cw,sU,cv,ct,bE,b7]
 grind [rK,rE,rH]
def nJ {s:av}(h:s.length<=1048576):(kn s).length<=1048590:=by
 unfold kn;split
 .simp
 .simp only[cw,cv,yw,ct,bE,b7];omega
def X3 {s:av}(h:s.length<=1048576):(xN s).length<=1048590:=by
 unfold xN;split
 .simp
 .simp only[cw,cv,nA,ct,bE,b7];omega
def xd {α:Type}(q:α->av)(B:Nat){l:List α}(h:∀x∈l,(q x).length<=B)(i:Nat):(((l.take i).map q).flatten).length<=i*B:=by
 have h1:=sf q B (l.take i) fun x hx=>h x (zG hx)
 have h2:=fH B (List.length_take_le i l);omega
theorem tk {α:Type} [Inhabited α](q:α->av){l:List α}{i:Nat}(h:i<l.length):((l.take (i+1)).map q).flatten=((l.take i).map q).flatten++q l[i]! :=by
 rw[List.take_add_one,List.getElem?_eq_getElem h,List.map_append,List.flatten_append];simp[h]
def TM {n:br}(h:n.fit):(Af n).length<=27400000:=by
 have h1:=sf jR 8400000 n.any fun w hw=>zz (h.1.2 w hw)
 have h2:=fH 8400000 h.1.1;have h3:=nJ h.2.1;have h4:=X3 h.2.2;have h5:(cw [Gm]).length=5:=rfl;unfold jR at h1
 grind [Af]
def VH {b:my}(h:b.sm):(GM b).length<=3145800:=by
 have h1:=nJ h.2.2.len;have h2:=h.1;have h3:=h.2.1.len;simp only[GM,cw,cv,zy,ct,bE,b7];omega
def Fq {x:ch}(h:x.fit):(w9 x).length<=8400000:=by
 have h1:=pP 32 1048576 ([jQ,x.name]++x.of) (by
  intro t ht;simp only[sX,qZ,b9]at ht;rcases ht with rfl|rfl|ht
  .simp[jQ]
  .exact h.1.1
  .exact h.1.2.2 _ ht)
 have h2:=h.2
 grind [jQ,w9,cw]
def Ts {r:Rec}(h1:r.name.length<=1048576)(h2:r.v.sm):(uS r).length<=3145800:=by
 have h3:=Eb r.v h2;simp only[uS,cw,cv,qe,ct,bE,b7];omega
def dP (n:br)(j:Nat):av:=cw [Gm]++((n.any.take j).map jR).flatten
def n9 {n:br}{j:Nat}(h:j<n.any.length):dP n (j+1)=dP n j++jR n.any[j]! :=by grind [dP,tk,jR]
def y7 {n:br}{j:Nat}(h:n.any.length<=j):Af n=dP n j++kn n.when'++xN n.option:=by
 rw[dP,eU h];rfl
def FD {n:br}(h:n.fit)(j:Nat)(hj:j<=3):(dP n j).length<=25200005:=by
 have h1:=xd jR 8400000 (fun w hw=>zz (h.1.2 w hw)) j;have h2:=fH 8400000 hj;have h5:(cw [Gm]).length=5:=rfl
 grind [dP]
def ku (r:Rec)(i:Nat):av:=uS r++((r.needs.take i).map Af).flatten
def D6 (r:Rec)(i:Nat):av:=ku r r.needs.length++((r.bars.take i).map GM).flatten
def Gk (r:Rec)(i:Nat):av:=D6 r r.bars.length++((r.feats.take i).map w9).flatten
def Zy (r:Rec):ku r 0=uS r:=by simp[ku]
def Zz (r:Rec):D6 r 0=ku r r.needs.length:=by simp[D6]
def ZA (r:Rec):Gk r 0=D6 r r.bars.length:=by simp[Gk]
def Ii (r:Rec):Gk r r.feats.length=D4 r:=by grind [Gk,D6,ku,D4]
def mj {r:Rec}{i:Nat}(h:i<r.needs.length):ku r (i+1)=ku r i++Af r.needs[i]! :=by grind [ku,tk,Af]
def M3 {r:Rec}{i:Nat}(h:i<r.bars.length):D6 r (i+1)=D6 r i++GM r.bars[i]! :=by grind [D6,tk,GM]
def M4 {r:Rec}{i:Nat}(h:i<r.feats.length):Gk r (i+1)=Gk r i++w9 r.feats[i]! :=by grind [Gk,tk,w9]
def Ig {r:Rec}(h:r.fit)(i:Nat)(hi:i<=r.needs.length):(ku r i).length<=222400000:=by
 have a0:=Ts h.nm h.v;have a1:=xd Af 27400000 (fun x hx=>TM (h.n x hx)) i;have b1:=fH 27400000 (eJ hi h.ns);simp only[ku,ct];omega
def Ih {r:Rec}(h:r.fit)(i:Nat)(hi:i<=r.bars.length):(D6 r i).length<=247600000:=by
 have a0:=Ig h r.needs.length (aP _);have a1:=xd GM 3145800 (fun x hx=>VH (h.b x hx)) i;have b1:=fH 3145800 (eJ hi h.bs);simp only[D6,ct];omega
def Si {r:Rec}(h:r.fit)(i:Nat)(hi:i<=r.feats.length):(Gk r i).length<=314800000:=by
 have a0:=Ih h r.bars.length (aP _);have a1:=xd w9 8400000 (fun x hx=>Fq (h.f x hx)) i;have b1:=fH 8400000 (eJ hi h.fs);simp only[Gk,ct];omega
theorem lU {r:Rec}(h:(c7 r).1=0):Fv r:=by
 unfold c7 at h;split at h
 .cases h
 split at h
 .cases h
 split at h
 .cases h
 rename_i a b c;split at h
 .rename_i d;exact absurd h d
 rename_i d;exact⟨⟨by simpa using a,by simpa using b⟩,⟨ae,ae⟩,LR (Classical.not_not.1 d)⟩
def wm (r:Rec):Int:=if(fg r).2≠0 then 0 else sumL (fg r).1
def uL (m:List (Nat×bm))(l:Nat)(t:List UInt8):Prop:=(∃u,look m l=some (.bld none 0 u)/\t=[])\/(∃l2 u,look m l=some (.bld (some l2) t.length u)/\look m l2=some (.row t))
@[go_sem] def gw (m:List (Nat×bm))(l:Nat):List (Nat×bm):=match look m l with
 |some (.bld (some l2) _ _)=>cQ m l2
 |_=>m
@[go_sem] def rT (m:List (Nat×bm))(l L:Nat)(t:List UInt8):List (Nat×bm):=(L,.row t)::cL (gw m l) l (.bld (some L) t.length true)
def TrW (aE4:D)(s:List UInt8)(ds:List D)(st:St)(K:D->St->Prop):Prop:=∃l t,ds=[.ptr l 2 0 0,aE4]/\uL st.m l t/\l<st.nx/\s≠[]/\t.length+s.length<=1099511627776/\K .any ⟨st.nx+1,rT st.m l st.nx (t++s)⟩
def trWS (ds:List D)(st:St)(K:D->St->Prop):Prop:=∃s,TrW (.str s) s ds st K
def trWB (ds:List D)(st:St)(K:D->St->Prop):Prop:=∃c,TrW (.int .u8 c.toNat) [c] ds st K
def trBS (ds:List D)(st:St)(K:D->St->Prop):Prop:=∃l t,ds=[.ptr l 2 0 0]/\uL st.m l t/\t≠[]/\K (.str t) ⟨st.nx,cQ (gw st.m l) l⟩
def C489 (Y:Ctx):Prop:=∀(ds:List D) (st:St) (K:D->St->Prop),trWS ds st K->Y.tr 489 ds st K
def C664 (Y:Ctx):Prop:=∀(ds:List D) (st:St) (K:D->St->Prop),trWB ds st K->Y.tr 664 ds st K
def C452 (Y:Ctx):Prop:=∀(ds:List D) (st:St) (K:D->St->Prop),trBS ds st K->Y.tr 452 ds st K
def Tz (b a:av)(l:List av)(h:a≠[]):cv b (a::l)≠[]:=by
 match l with
 |[]=>exact h
 |c::r=>
  rw[vJ b a (c::r) aG];intro e;have:=List.append_eq_nil_iff.1 e;exact h (List.append_eq_nil_iff.1 this.1).1
def GD (ws:List av)(t:av):Prop:=(cv [32] ws≠[]/\ws.length<=1048600)/\(∀w∈ws,w.length<=2097200)/\t.length+(cv [32] ws).length+1<=1099511627776
def GD.mk {a:av}{l:List av}{t:av}(h1:a≠[])(h2:l.length<=99)(h3:∀w∈a::l,w.length<=2097200)(h4:t.length<=1000000000):GD (a::l) t:=by
 have h5:=pP 32 2097200 (a::l) h3;have h6:(a::l).length<=100:=by simp only[bE];omega
 have h7:=fH (2097200+1) h6;exact⟨⟨Tz _ _ _ h1,ae⟩,h3,ae⟩
def C450 (Y:Ctx):Prop:=∀(ws:List av) (t:av) (l lw nx:Nat) (m:List (Nat×bm)) (K:D->St->Prop),uL m l t->look m lw=some (.buf 1 (ws.map D.str))->l<nx->lw<nx->GD ws t->
 K (.tup []) ⟨nx+1,rT (cQ m lw) l nx (t++cw ws)⟩->Y.tr 450 [.ptr l 2 0 0,.own lw 1 0 ws.length] ⟨nx,m⟩ K
def y0 {m:List (Nat×bm)}{l L:Nat}{t:List UInt8}(h:l≠L):look (rT m l L t) l=some (.bld (some L) t.length true)/\look (rT m l L t) L=some (.row t):=by
 constructor
 .simp only[rT,look,ai (fun e=>h (Eq.symm e))]
  haveI:cN:={gd:=fun _=>True,le:=fun _ _ _ _ _=>trivial}
  rw[bJ,ak rfl]
 .simp only[rT,look,ak]
def abr {m:List (Nat×bm)}{l L:Nat}{t:List UInt8}(h:l≠L):uL (rT m l L t) l t:=.inr ⟨L,true,y0 h⟩
end Go.Abs
section
namespace Go.Abs
variable {Y:Ctx}(hm:(Y.at 0).bR)
structure kr where
 r:Rec
 sum:Int
 off:Bool
 deriving Inhabited,DecidableEq
def kr.D (x:kr):D:=.agg [.str x.r.name,.int .i64 x.r.v.major,.int .i64 x.r.v.minor,.int .i64 x.r.v.patch,.str x.r.v.pre,.str x.r.v.build,.sl 3 (x.r.needs.map br.D),.sl 3 (x.r.bars.map my.D),.sl 2 (x.r.feats.map ch.D),.int .u64 x.sum,.bool x.off]
structure bN where
 name:av
 es:List kr
 deriving Inhabited,DecidableEq
def bN.D (s:bN):D:=.agg [.str s.name,.sl 11 (s.es.map kr.D)]
def Ld (nm:av)(v:bZ)(x:kr):Bool:=decide (x.r.name=nm)&&LI x.r.v v
def aiI {nm:av}{v:bZ}{x:kr}(h:¬x.r.name=nm\/LI x.r.v v=false):Ld nm v x=false:=by
 grind [Ld]
def acF {nm:av}{v:bZ}{x:kr}(h:x.r.name=nm/\LI x.r.v v=true):Ld nm v x=true:=by
 grind [Ld]
def sC (l:List kr)(nm:av)(v:bZ)(i:Nat):Int:=match(l.drop i).findIdx? (Ld nm v)with
 |some k=>((i+k:Nat):Int)
 |none=>-1
def Ya {l:List kr}{nm:av}{v:bZ}{i:Nat}(h:i<l.length)(he:Ld nm v l[i]! =true):sC l nm v i=(i:Nat):=by
 unfold sC;rw[eV h,List.findIdx?_cons]
 grind
def Yc {l:List kr}{nm:av}{v:bZ}{i:Nat}(h:i<l.length)(he:Ld nm v l[i]! =false):sC l nm v i=sC l nm v (i+1):=by
 unfold sC;have:Ld nm v l[i]=false:=by simpa[h]using he
 rw[eV h,List.findIdx?_cons]
 grind
def RF {l:List kr}{nm:av}{v:bZ}{i:Nat}(h:l.length<=i):sC l nm v i=-1:=by
 unfold sC;rw[j4 h];rfl
def rZ (l:List kr)(i:Nat):Bool:=decide ((fg l[i]!.r).2=0)&&decide (wm l[i]!.r=l[i]!.sum)&&decide (sC (l.take i) l[i]!.r.name l[i]!.r.v 0<0)
def ie (s:bN):Bool:=(dn s.name&&decide (s.es.length<=64))&&bO (rZ s.es) 0 s.es.length
theorem De {r:Rec}(h:(fg r).2=0):gy r.v=true:=by
 grind [c7,fg,lU]
def Yb {l:List kr}{nm:av}{v:bZ}:sC l nm v 0<0↔∀x∈l,Ld nm v x=false:=by
 grind [sC,Ld]
theorem FL {l:List kr}{i:Nat}(h:i<l.length)(hv:gy l[i]!.r.v=true):decide (sC l l[i]!.r.name l[i]!.r.v 0=(i:Nat))=decide (sC (l.take i) l[i]!.r.name l[i]!.r.v 0<0):=by
 have hi:Ld l[i]!.r.name l[i]!.r.v l[i]! =true:=by unfold Ld;rw[FJ hv,bz rfl];rfl
 apply lJ.2;rw[Yb];constructor
 .intro he x hx;obtain⟨j,hj,rfl⟩:=List.mem_take_iff_getElem.1 hx;have hj2:j<i:=ae;unfold sC at he;rw[cT]at he;cases hf:l.findIdx? (Ld l[i]!.r.name l[i]!.r.v)with
  |none=>rw[hf]at he;simp only at he;omega
  |some k=>
   rw[hf]at he;obtain⟨h1,h2,h3⟩:=List.findIdx?_eq_some_iff_getElem.1 hf;have hk:k=i:=by simp only at he;omega
   subst hk;have:=h3 j hj2;simpa using this
 .intro hx;unfold sC;rw[cT];have:l.findIdx? (Ld l[i]!.r.name l[i]!.r.v)=some i:=by
   rw[List.findIdx?_eq_some_iff_getElem];refine⟨h,by simpa[h]using hi,fun j hj=>?_⟩;have:=hx l[j] (List.mem_take_iff_getElem.2 ⟨j,ae,rfl⟩);rw[this];decide
  rw[this];simp
def Wd {l:List kr}{i:Nat}(h:i<l.length)(h1:(fg l[i]!.r).2=0)(h2:wm l[i]!.r=l[i]!.sum)(h3:sC l l[i]!.r.name l[i]!.r.v 0=(i:Nat)):rZ l i=true:=by
 grind [FL,De,rZ]
def aca {l:List kr}{i:Nat}(h:i<l.length)(h1:(¬(fg l[i]!.r).2=0\/¬wm l[i]!.r=l[i]!.sum)\/¬sC l l[i]!.r.name l[i]!.r.v 0=(i:Nat)):rZ l i=false:=by
 grind [rZ,fg,wm,FL,De]
end Go.Abs
namespace Go.Abs
variable {Y:Ctx}(hm:(Y.at 0).bR)
def adK {s:bN}(h:ie s=true):s.name.length<=16/\s.es.length<=64:=by
 grind [ie,dn]
end Go.Abs
end
namespace Go.Abs
variable {Y:Ctx}(hm:(Y.at 0).bR)
def GR (a b:Int):Int:=IntKind.i64.wrap ((BitVec.ofInt 64 a&&&BitVec.ofInt 64 b).toNat)
def bvN (a b:Int):Int:=IntKind.i64.wrap ((BitVec.ofInt 64 a&&& ~~~ BitVec.ofInt 64 b).toNat)
def bvO (a b:Int):Int:=IntKind.i64.wrap ((BitVec.ofInt 64 a |||BitVec.ofInt 64 b).toNat)
def nR (us:List c9)(u:Int):Int:=if u<0\/(us.length:Int)<=u then 0 else 2^(us[u.toNat]!.cands.length+1) -1
def qI (cs:List ei)(s:cy):Nat->Int
 |0=>0
 |k+1=>if pM s cs[k]!.v=true then qI cs s k+2^(k+1)else qI cs s k
def uF (us:List c9)(w:Want):Int:=if w.u<0\/(us.length:Int)<=w.u then 0 else qI us[w.u.toNat]!.cands w.s us[w.u.toNat]!.cands.length
def mQ (us:List c9):List dU->Int->Int
 |[],u=>nR us u
 |t::r,u=>if t.u=u then t.m else mQ us r u
def trmB (us:List c9)(t:dU):Bool:=decide (t.m≠0)&&decide (GR t.m (nR us t.u)=t.m)&&decide (t.m≠nR us t.u)
def M0 (us:List c9)(l:List dU):Bool:=bO (fun i=>trmB us l[i]! && !(decide (0<i)&&decide (l[i]!.u<=l[i-1]!.u))) 0 l.length
def T1 (k:Nat):(2:Int)^k=((2^k:Nat):Int):=by
 induction k with
 |zero=>rfl
 |succ k ih=>rw[Int.pow_succ,ih,Nat.pow_succ];omega
def ajO {k n:Nat}(h:k<=n):(2:Int)^k<=2^n:=by
 rw[T1,T1];exact Int.ofNat_le.2 (Nat.pow_le_pow_right aT h)
def pX (k:Nat):(1:Int)<=2^k:=by
 rw[T1];have:=Nat.one_le_two_pow (n:=k);omega
def FN {k:Nat}(h:k<=40):(2:Int)^k<=1099511627776:=ajO h
def Oz (cs:List ei)(s:cy):∀k,0<=qI cs s k/\qI cs s k<=2^(k+1) -2
 |0=>by simp[qI]
 |k+1=>by
  have ih:=Oz cs s k;have h1:(2:Int)^(k+1+1)=2^(k+1)*2:=Int.pow_succ 2 (k+1);have h2:=pX (k+1);rw[qI];split<;>omega
def sureB (us:List c9)(row:jk)(k:Int)(w:Want):Bool:=if w.u=row.unit then decide (GR (uF us w) (2^(k+1).toNat)≠0)else decide (bvN (mQ us row.terms w.u) (uF us w)=0)
def lostB (us:List c9)(row:jk)(k:Int)(w:Want):Bool:=if w.u=row.unit then decide (GR (uF us w) (2^(k+1).toNat)=0)else decide (GR (uF us w) (mQ us row.terms w.u)=0)
def InR (x:Int):Prop:=-9223372036854775808<=x/\x<=9223372036854775807
def Sn (x:BitVec 64):IntKind.i64.wrap (x.toNat:Int)=x.toInt:=by
 have h:=x.isLt;have e:IntKind.i64.wrap (x.toNat:Int)=if decide ((x.toNat:Int)%18446744073709551616≥9223372036854775808)=true then(x.toNat:Int)%18446744073709551616-18446744073709551616 else(x.toNat:Int)%18446744073709551616:=rfl
 rw[e,BitVec.toInt_eq_toNat_cond];simp only[bn];split<;>split<;>omega
def LD {m:Int}(h:InR m):(BitVec.ofInt 64 m).toInt=m:=by
 obtain⟨h1,h2⟩:=h;rw[BitVec.toInt_ofInt,Int.bmod_def];split<;>omega
def VQ (a b:Int):GR a b=(BitVec.ofInt 64 a&&&BitVec.ofInt 64 b).toInt:=Sn _
def ag0 (a b:Int):bvO a b=(BitVec.ofInt 64 a |||BitVec.ofInt 64 b).toInt:=Sn _
def abA {a:Int}{i:Nat}(h0:0<=a)(h1:a<2^i)(hi:i<=40):bvO a (2^i)=a+2^i:=by
 have hp:=FN hi;obtain⟨n,rfl⟩:∃n:Nat,a=(n:Int):=⟨a.toNat,ae⟩
 rw[T1]at h1 hp⊢;have h2:n<2^i:=ae;have hl:(2:Nat)^i<=1099511627776:=ae;have e:(BitVec.ofInt 64 (n:Int) |||BitVec.ofInt 64 ((2^i:Nat):Int)).toNat=n+2^i:=by
  rw[BitVec.toNat_or,BitVec.toNat_ofInt,BitVec.toNat_ofInt];have h3:((n:Int)%((2^64:Nat):Int)).toNat=n:=ae;have h4:(((2^i:Nat):Int)%((2^64:Nat):Int)).toNat=2^i:=ae;rw[h3,h4,Nat.or_comm];have:=Nat.two_pow_add_eq_or_of_lt h2 1;simp only[Nat.mul_one]at this;omega
 unfold bvO;rw[e,wrap_i64 ae ae];omega
def fY {α:Type}(f:α->Bool):List α->Nat->Int
 |[],_=>-1
 |x::r,i=>if f x=true then(i:Int)else fY f r (i+1)
def jc {α:Type} [Inhabited α]{f:α->Bool}{l:List α}{i:Nat}(hi:i<l.length)(h:f l[i]! =true):fY f (l.drop i) i=i:=by
 rw[eV hi,fY,ak (by simpa[hi]using h)]
def hY {α:Type} [Inhabited α]{f:α->Bool}{l:List α}{i:Nat}(hi:i<l.length)(h:f l[i]! =false):fY f (l.drop i) i=fY f (l.drop (i+1)) (i+1):=by
 rw[eV hi,fY,ai (by simpa[hi]using h)]
def jJ {α:Type}{f:α->Bool}{l:List α}{i:Nat}(hi:l.length<=i):fY f (l.drop i) i=-1:=by
 rw[j4 hi,fY]
def fB (b:Bool)(us:List c9)(row:jk)(k:Int)(w:Want):Bool:=if b=true then sureB us row k w else !lostB us row k w
def ady (us:List c9)(row:jk)(k:Int)(r:oz):Bool:=!r.any (fB false us row k)
def saysP (us:List c9)(row:jk)(k:Nat)(mild:Bool):Bool:=if mild=true then us[row.unit.toNat]!.cands[k]!.bars.any (fB true us row (k:Int))else us[row.unit.toNat]!.cands[k]!.needs.any (ady us row (k:Int))
def ei.fz (l k:Nat)(es:List Abs.D)(c:ei):iA l k es c.D=c.D:=gu l k es _ (by simp only[ei.D,D.aR,aL,gQ])
def wB.fz (l k:Nat)(es:List Abs.D)(c:wB):iA l k es c.D=c.D:=gu l k es _ (by simp only[wB.D,D.aR,aL,gQ])
def jk.fz (l k:Nat)(es:List Abs.D)(c:jk):iA l k es c.D=c.D:=gu l k es _ (by simp only[jk.D,D.aR,aL,gQ])
def hasU (l:List dU)(u:Int):Bool:=l.any fun t=>decide (t.u=u)
def QM (us:List c9)(row:jk)(mild:Bool):Bool:=hasU row.terms row.unit&&decide (GR (mQ us row.terms row.unit) 1=0)&&bO (fun k=>decide (GR (mQ us row.terms row.unit) (2^(k+1))=0) ||saysP us row k mild) 0 us[row.unit.toNat]!.cands.length
def bothU (us:List c9)(A B:List dU)(row:jk)(u:Nat):Bool:=decide (bvN (mQ us row.terms (u:Int)) (if(u:Int)=row.unit then bvO (mQ us A (u:Int)) (mQ us B (u:Int))else GR (mQ us A (u:Int)) (mQ us B (u:Int)))=0)
def bothP (c:wB)(row:jk)(i:Int):Bool:=decide (nR c.w.us row.unit≠0)&&(decide (0<=row.a)&&decide (row.a<i))&&(decide (0<=row.b)&&decide (row.b<i))&&(M0 c.w.us c.rows[row.a.toNat]!.terms&&M0 c.w.us c.rows[row.b.toNat]!.terms)&&bO (bothU c.w.us c.rows[row.a.toNat]!.terms c.rows[row.b.toNat]!.terms row) 0 c.w.us.length
def askP (c:wB)(row:jk):Bool:=decide (nR c.w.us row.unit≠0)&&decide (row.unit<c.allow.length)&&decide (GR (mQ c.w.us row.terms row.unit) c.allow[row.unit.toNat]! =0)
def kindP (c:wB)(row:jk)(i:Int):Bool:=if row.kind=5 then bothP c row i else decide (row.a=0)&&decide (row.b=0)&&(if row.kind=1 then decide (row.unit=0)&&decide (mQ c.w.us row.terms 0=1)else if row.kind=2\/row.kind=3 then QM c.w.us row (decide (row.kind=3))else if row.kind=4 then askP c row else false)
def aiQ (c:wB)(i:Int):Bool:=decide (0<=i)&&decide (i<c.rows.length)&&M0 c.w.us c.rows[i.toNat]!.terms&&kindP c c.rows[i.toNat]! i
def mB (f:Nat->Bool):Nat->Nat->Nat
 |0,i=>i
 |k+1,i=>if f i=true then mB f k (i+1)else i
def GL {f:Nat->Bool}{i n:Nat}(hi:i<n)(h:f i=true):mB f (n-i) i=mB f (n-(i+1)) (i+1):=by
 obtain⟨k,hk⟩:∃k,n-i=k+1:=⟨n-i-1,ae⟩
 rw[hk,mB,ak h,show k=n-(i+1)by omega]
def Qy {f:Nat->Bool}{i n:Nat}(hi:i<n)(h:f i=false):mB f (n-i) i=i:=by
 obtain⟨k,hk⟩:∃k,n-i=k+1:=⟨n-i-1,ae⟩
 rw[hk,mB,ai (by rw[h];exact Bool.false_ne_true)]
def KJ {f:Nat->Bool}{i n:Nat}(hi:n<=i):mB f (n-i) i=i:=by
 rw[show n-i=0 by omega,mB]
def abz (a b:Int):InR (GR a b):=by
 rw[VQ];have h1:=BitVec.le_toInt (BitVec.ofInt 64 a&&&BitVec.ofInt 64 b);have h2:=BitVec.toInt_lt (x:=BitVec.ofInt 64 a&&&BitVec.ofInt 64 b);exact⟨by simpa using h1,by have:=h2;simp at this;omega⟩
def DU {b:Int}{n:Nat}(hb:b=(n:Int))(hn:n<=39):IntKind.i64.wrap (2*2^(min b.toNat IntKind.i64.bits))=2^(n+1):=by
 subst hb;have h:=FN (k:=n+1) ae;have h2:=pX n;rw[Int.pow_succ]at h;rw[show min (Int.toNat (n:Int)) IntKind.i64.bits=n from Nat.min_eq_left (by simp only[IntKind.bits];omega),Int.pow_succ,Int.mul_comm];exact wrap_i64 ae ae
def nI {α:Type} [Inhabited α]{l:List α}{i:Nat}(h:i<l.length):l.take i++[l[i]!]=l.take (i+1):=by
 rw[List.take_succ,show l[i]? =some l[i]! by simp[h]];rfl
def bitI (m:Int)(i:Nat):Bool:=decide (IntKind.i64.wrap ((BitVec.ofInt 64 (m.fdiv (2^(min (i:Int).toNat 64))))&&&(BitVec.ofInt 64 1)).toNat=1)
def Vs (n:Nat)(s:cy):Prop:=s.sm/\s.rel.length<=n/\s.pr.length<=n
def Vs.s {n:Nat}{s:cy}(h:Vs n s)(hn:n<=1000):SetS s:=⟨⟨h.1.1,eJ h.2.1 hn⟩,⟨h.1.2,eJ h.2.2 hn⟩⟩
def Vs.mono {n k:Nat}{s:cy}(h:Vs n s)(hn:n<=k):Vs k s:=⟨h.1,eJ h.2.1 hn,eJ h.2.2 hn⟩
inductive NF where
 |nil|sl (l:List oz)|own (k:Nat)
 deriving Inhabited
inductive BF where
 |nil|sl (l:List Want)|own (k:Nat)
 deriving Inhabited
def NF.D (e:Nat):NF->D
 | .nil=>.aJ
 | .sl l=>.sl 1 (l.map jC)
 | .own k=>.own e 1 0 k
def BF.D (e:Nat):BF->D
 | .nil=>.aJ
 | .sl l=>.sl 3 (l.map Want.D)
 | .own k=>.own e 3 0 k
structure CW where
 v:bZ
 sh:Int
 n:NF
 b:BF
 deriving Inhabited
def CW.D (e:Nat)(c:CW):D:=.agg [.int .i64 c.v.major,.int .i64 c.v.minor,.int .i64 c.v.patch,.str c.v.pre,.str c.v.build,.int .i64 c.sh,c.n.D e,c.b.D e]
def NF.pl:NF->Bool
 | .own _=>false
 |_=>true
def BF.pl:BF->Bool
 | .own _=>false
 |_=>true
def CW.pl (c:CW):Bool:=c.n.pl&&c.b.pl
def CW.aR {e:Nat}{c:CW}(h:c.pl=true):(c.D e).aR=true:=by
 obtain⟨v,sh,n,b⟩:=c;cases n<;>cases b<;>first|(simp[CW.pl,NF.pl,BF.pl]at h;done)|rfl
theorem CW.rn {e e' lo:Nat}{σ:List (Nat×Nat)}(h:mz lo σ e=some e')(c:CW):rN lo σ (c.D e)=some (c.D e'):=by
 obtain⟨v,sh,n,b⟩:=c;cases n<;>cases b<;>simp[CW.D,NF.D,BF.D,rN,oo,R0,h]
def CsOk (n:Nat)(cs:Nat->List CW):Prop:=(2<=n/\n<=8)/\∀t,(cs t).length<=4/\∀c∈cs t,c.v.sm
def Want.fz (l k:Nat)(es:List Abs.D)(w:Want):iA l k es w.D=w.D:=gu l k es _ (by simp only[Want.D,D.aR,aL,gQ])
def Gs.fz (l k:Nat)(es:List Abs.D)(g:Gs):iA l k es g.D=g.D:=gu l k es _ (by simp only[Gs.D,D.aR,aL,gQ])
structure RU where
 name:av
 feat:av
 cs:List CW
 deriving Inhabited
def rawC (v:bZ):CW:=⟨v,0,.nil,.nil⟩
def VK (m:Int):Nat->List bZ
 |0=>[]
 |i+1=>if bitI m i=true then VK m i++[bU[i]!]else VK m i
def RU.pl (u:RU):Prop:=∀c∈u.cs,c.pl=true
def Gs.Sk (g:Gs)(n:Int):(1<=n->0<=g.val n/\g.val n<n)/\(n<1->g.val n=0):=⟨fun h=>du _ _ h,fun h=>by simp only[Gs.val,bY];rw[ak h]⟩
def CInv (vs:Nat->List bZ)(B:Nat->List CW):Prop:=∀t,(B t).map CW.v=vs t/\∀c∈B t,c.pl=true
def CInv.len {vs:Nat->List bZ}{B:Nat->List CW}(h:CInv vs B):(fun j=>(B j).length)=fun j=>(vs j).length:=by
 funext j;rw[<-(h j).1,bj]
def NF.p:NF->List oz
 | .sl l=>l
 |_=>[]
def BF.p:BF->List Want
 | .sl l=>l
 |_=>[]
def CW.p (c:CW):ei:=⟨c.v,c.sh,c.n.p,c.b.p⟩
def Vv (vs:Nat->List bZ)(B:Nat->List CW):Prop:=∀t,(B t).map CW.v=vs t
def CInv.v {vs:Nat->List bZ}{B:Nat->List CW}(h:CInv vs B):Vv vs B:=fun t=>(h t).1
def Vv.len {vs:Nat->List bZ}{B:Nat->List CW}(h:Vv vs B):(fun j=>(B j).length)=fun j=>(vs j).length:=by
 funext j;rw[<-h j,bj]
def VsOk (vs:Nat->List bZ):Prop:=∀t,(vs t).length<=4/\∀v∈vs t,v.sm
def Vv.ok {vs:Nat->List bZ}{B:Nat->List CW}{n:Nat}(h:Vv vs B)(hn:2<=n/\n<=8)(hv:VsOk vs):CsOk n B:=by
 refine⟨hn,fun t=>⟨?_,fun c hc=>?_⟩⟩
 .have:=(hv t).1;rw[<-h t,bj]at this;exact this
 .exact(hv t).2 _ (by rw[<-h t];exact List.mem_map_of_mem hc)
def b6.fz (l k:Nat)(es:List Abs.D)(w:b6):iA l k es w.D=w.D:=gu l k es _ rfl
def dU.eq (a b:dU):hR (dU.D a).cells (dU.D b).cells=decide (a=b):=by
 cases a;cases b
 grind [dU.D,D.cells,hR,BA]
def iO (us:List c9)(i:Nat):List Int:=(List.range i).map fun u=>nR us ((u:Nat):Int)
def N5 (us:List c9)(i:Nat):(iO us i).length=i:=by simp[iO]
def N4 (us:List c9)(i:Nat):iO us i++[nR us ((i:Nat):Int)]=iO us (i+1):=by
 simp[iO,List.range_succ]
def stI64 {xs:List Int}{i:Nat}(h:i<xs.length)(v:Int):(xs.map (D.int .i64)).set i (qb ((xs.map (D.int .i64)).getD i .any) 1 1 0 (.int .i64 v))=(xs.set i v).map (D.int .i64):=by
 rw[getD_map h,List.map_set];rfl
def Few (us:List c9):Prop:=∀u∈us,∀c∈u.cands,c.needs.length<=1000/\c.bars.length<=1000/\∀r∈c.needs,r.length<=1000
structure Prv where
 w:b6
 facts:List jk
 x:D
def Prv.D (p:Prv):Abs.D:=.agg [.sl 3 (p.w.us.map c9.D),.sl 5 (p.facts.map jk.D),p.x]
def bt (m:Int)(i:Nat):Bool:=(BitVec.ofInt 64 m).getLsbD i
def ofInt_toInt (x:BitVec 64):BitVec.ofInt 64 x.toInt=x:=BitVec.ofInt_toInt
def VL (a b:Int)(i:Nat):bt (GR a b) i=(bt a i&&bt b i):=by
 unfold bt;rw[VQ,ofInt_toInt,BitVec.getLsbD_and]
def bt_or (a b:Int)(i:Nat):bt (bvO a b) i=(bt a i ||bt b i):=by
 unfold bt;rw[ag0,ofInt_toInt,BitVec.getLsbD_or]
def agY {a b:Int}(ha:InR a)(hb:InR b)(h:∀i,bt a i=bt b i):a=b:=by
 have e:BitVec.ofInt 64 a=BitVec.ofInt 64 b:=by
  ext i hi
  have:=h i;unfold bt at this
  rwa [BitVec.getLsbD_eq_getElem hi,BitVec.getLsbD_eq_getElem hi]at this
 rw[<-LD ha,<-LD hb,e]
def InR0:InR 0:=⟨aT,aT⟩
def GQ (i:Nat):bt 0 i=false:=by unfold bt;simp
def VR {a b:Int}:GR a b=0↔∀i,¬(bt a i=true/\bt b i=true):=by
 constructor
 .intro h i hi;have:=VL a b i;rw[h,GQ,hi.1,hi.2]at this;exact absurd this aT
 .intro h;refine agY (abz _ _) InR0 fun i=>?_
  rw[VL,GQ];have:=h i;revert this;cases bt a i<;>cases bt b i<;>simp
def agZ {a b:Int}:GR a b≠0↔∃i,bt a i=true/\bt b i=true:=by
 rw[Ne,VR];constructor
 .intro h;exact Classical.byContradiction fun g=>h fun i hi=>g ⟨i,hi⟩
 .rintro⟨i,hi⟩ h;exact h i hi
def NQ {k:Nat}(hk:k<=40)(i:Nat):bt (2^k) i=decide (i=k):=by
 unfold bt;rw[T1];have hl:(2:Nat)^k<=1099511627776:=by
  have:=FN hk;rw[T1]at this;omega
 rw[show BitVec.ofInt 64 ((2^k:Nat):Int)=BitVec.ofNat 64 (2^k)from BitVec.ofInt_natCast ..];rw[BitVec.getLsbD_ofNat,Nat.testBit_two_pow];by_cases e:k=i
 .subst e;simp;omega
 .rw[bI e,Bool.and_false,bI (fun h=>e h.symm)]
def QE (cs:List ei)(s:cy)(i:Nat):∀k,k<=16->bt (qI cs s k) i=(decide (1<=i)&&decide (i<=k)&&pM s cs[i-1]!.v)
 |0,_=>by
  rw[qI,GQ];by_cases h:1<=i
  .rw[bI (show ¬i<=0 by omega)];simp
  .rw[bI h];rfl
 |k+1,hk=>by
  have ih:=QE cs s i k ae;have hr:=Oz cs s k;rw[qI];split
  .rename_i h;rw[<-abA hr.1 (by have:=pX (k+1);omega) ae,bt_or,ih,NQ ae];by_cases e:i=k+1
   .subst e;rw[show k+1-1=k from rfl,h];simp
   .rw[bI e,Bool.or_false];congr 2;rw[lJ];omega
  .rename_i h;rw[ih];by_cases e:i=k+1
   .subst e;simp only[Bool.not_eq_true]at h;rw[show k+1-1=k from rfl,h];simp
   .congr 2;rw[lJ];omega
def VM {us:List c9}{w:Want}{u:Nat}(hw:w.u=((u:Nat):Int))(hu:u<us.length)(hs:∀x∈us,x.cands.length<=16)(i:Nat):bt (uF us w) i=(decide (1<=i)&&decide (i<=us[u]!.cands.length)&&pM w.s us[u]!.cands[i-1]!.v):=by
 have hc:=hs _ (aq hu);unfold uF;rw[ai ae,hw];exact QE _ _ _ _ hc
abbrev S16 (us:List c9):Prop:=∀x∈us,x.cands.length<=16
def agc (us:List c9)(allow:List Int)(r:jk):Prop:=M0 us r.terms=true/\(r.a=0/\r.b=0)/\(0<=r.unit/\r.unit<us.length)/\
 (r.kind=1/\r.unit=0/\mQ us r.terms 0=1\/(r.kind=2\/r.kind=3)/\QM us r (decide (r.kind=3))=true\/r.kind=4/\r.unit<allow.length/\GR (mQ us r.terms r.unit) allow[r.unit.toNat]! =0)
section
abbrev AllOK (us:List c9)(allow:List Int)(rows:List jk):Prop:=∀x∈rows,agc us allow x
section
variable {us:List c9} {allow:List Int}
end
end
def COK (us:List c9)(c:List Int):Prop:=c.length<=us.length/\∀u,u<c.length->-1<=c[u]! /\c[u]! <us[u]!.cands.length
def vb (c:List Int)(u:Nat):Nat:=(c[u]! +1).toNat
def Vr (w:b6)(allow:List Int)(rows:List jk):Prop:=∀i,i<rows.length->aiQ ⟨w,allow,rows⟩ ((i:Nat):Int)=true
def Near (us:List c9)(c:List Int)(k:Nat)(l:List dU):Prop:=M0 us l=true/\(∀t∈l,t.u<c.length+1)/\(∀u,u<c.length->bt (mQ us l ((u:Nat):Int)) (vb c u)=true)/\∀j,j<k->bt (mQ us l ((c.length:Nat):Int)) j=true
def COK.app {us:List c9}{c:List Int}{i:Int}(h:COK us c)(hl:c.length<us.length)(h1:-1<=i)(h2:i<us[c.length]!.cands.length):COK us (c++[i]):=by
 refine⟨dN,fun u hu=>?_⟩;rw[ct,List.length_singleton]at hu;rcases eh u c.length with h3|h3
 .rw[List.getElem!_eq_getElem?_getD,List.getElem?_append_left h3,<-List.getElem!_eq_getElem?_getD];exact h.2 u h3
 .obtain rfl:u=c.length:=ae;simp only[List.getElem!_eq_getElem?_getD,List.getElem?_concat_length,Option.getD_some]at*
  exact⟨h1,h2⟩
section
def subsV:List (List bZ):=(List.range 16).map fun m=>VK ((m:Nat):Int) 4
set_option maxRecDepth 10000
def wZ:∀v∈bU,wc (er v)=true/\gy v=true:=by decide+kernel
def RU.ok (u:RU):Prop:=u.name≠[]/\∃vs,vs∈subsV/\u.cs=vs.map rawC
def SInv (w:b6)(al c:List Int)(k:Nat)(now:Int)(R:List jk):Prop:=Vr w al R/\(k=0/\now=-1\/0<k/\(0<=now/\now<R.length)/\Near w.us c k R[now.toNat]!.terms)/\R.length<=5100+2*k
def NPre (w:b6)(al:List Int)(facts:List jk)(c:List Int)(rows:List jk):Prop:=((w.sm/\S16 w.us/\w.us.length<=48)/\AllOK w.us al facts)/\(COK w.us c/\Vr w al rows)/\rows.length<=100000
def NPre.app {w:b6}{al:List Int}{facts:List jk}{c:List Int}{rows R:List jk}{k:Nat}(h:NPre w al facts c rows)(hl:c.length<w.us.length)(hk:k<w.us[c.length]!.cands.length+1){now:Int}(hI:SInv w al c k now R):NPre w al facts (c++[((k:Nat):Int) -1]) R:=by
 have h16:=h.1.1.2.1 _ (aq hl);exact⟨h.1,⟨h.2.1.1.app hl ae ae,hI.1⟩,by have:=hI.2.2;omega⟩
def aff (r:jk):jk:=⟨r.kind,r.unit,r.b,r.a,r.terms⟩
def Vu (L R:List jk):Prop:=R.length=L.length/\∀k,k<L.length->R[k]! =L[k]! \/(L[k]!.kind=5/\R[k]! =aff L[k]!)
def Zl {xs:List jk}{i u:Nat}{v:jk}(hu:u<xs.length):(xs.set i v)[u]! =if i=u then v else xs[u]! :=by
 simp only[List.getElem!_eq_getElem?_getD,List.getElem?_set];split
 .rename_i h;subst h;rw[ak hu];rfl
 .rfl
def Vu.step {L R:List jk}{i:Nat}(h:Vu L R)(hi:i<L.length)(hk:R[i]!.kind=5):Vu L (R.set i (aff R[i]!)):=by
 refine⟨by rw[List.length_set];exact h.1,fun k hk2=>?_⟩;rw[Zl (by rw[h.1];exact hk2)];split
 .rename_i e;subst e;rcases h.2 i hi with h1|⟨h1,h2⟩
  .exact .inr ⟨by rw[<-h1];exact hk,by rw[h1]⟩
  .exact .inl (by rw[h2];rfl)
 .exact h.2 k hk2
end
def SS (us:List c9)(κ:Nat->Nat)(x:Want):Prop:=bt (uF us x) (κ x.u.toNat)=true
structure SolP (us:List c9)(κ:Nat->Nat):Prop where
 pos:0<us.length
 root:κ 0≠0
 le:∀u,u<us.length->κ u<=us[u]!.cands.length
 needs:∀u,u<us.length->κ u≠0->∀r∈us[u]!.cands[κ u-1]!.needs,∃x∈r,SS us κ x
 bars:∀u,u<us.length->κ u≠0->∀x∈us[u]!.cands[κ u-1]!.bars,¬SS us κ x
 inU:∀u,u<us.length->κ u≠0->(∀r∈us[u]!.cands[κ u-1]!.needs,∀x∈r,0<=x.u/\x.u<us.length)/\∀x∈us[u]!.cands[κ u-1]!.bars,0<=x.u/\x.u<us.length
def bt_p {k i:Nat}(hk:k<=40)(h:i=k):bt (2^k) i=true:=by
 rw[NQ hk];simpa using h
def B2 {f:Nat->Bool}:∀k i,¬mB f k i<i+k->∀j,i<=j->j<i+k->f j=true
 |0,i,_,j,h1,h2=>ae
 |k+1,i,h,j,h1,h2=>by
  rw[mB]at h;split at h
  .rename_i e;by_cases q:j=i
   .subst q;exact e
   .exact B2 k (i+1) (by rw[show i+1+k=i+(k+1)by omega];exact h) j ae ae
  .omega
def ew (us:List c9)(l:List Want):List dU:=l.map fun x=>⟨x.u,uF us x⟩
structure j7 where
 full:List Int
 needs:List (List (List (List dU)))
 bars:List (List (List dU))
 deriving Inhabited
def Ic (l:List dU):D:=.sl 2 (l.map dU.D)
def oF (l:List (List dU)):D:=.sl 1 (l.map Ic)
def qd (l:List (List (List dU))):D:=.sl 1 (l.map oF)
def j7.D (m:j7):D:=.agg [.sl 1 (m.full.map (D.int .i64)),.sl 1 (m.needs.map qd),.sl 1 (m.bars.map oF)]
def kR (us:List c9)(l:List oz):List (List dU):=l.map (ew us)
def eG (us:List c9)(cs:List ei):List (List (List dU)):=cs.map fun c=>kR us c.needs
def jy (us:List c9)(cs:List ei):List (List dU):=cs.map fun c=>ew us c.bars
def eu (us:List c9)(i:Nat):List (List (List (List dU))):=(us.take i).map fun u=>eG us u.cands
def jx (us:List c9)(i:Nat):List (List (List dU)):=(us.take i).map fun u=>jy us u.cands
def dy (us:List c9):j7:=⟨iO us us.length,eu us us.length,jx us us.length⟩
def CZ (c:List Int)(x:dU):Bool:=decide (0<=c[x.u.toNat]!)&&decide (GR x.m (2^(c[x.u.toNat]!.toNat+1))≠0)
def kd (c:List Int)(l:List dU):Bool:=oA (fun i=>CZ c l[i]!) 0 l.length
def Ww (m:j7)(c:List Int)(u:Nat):Bool:=decide (c[u]! <0) ||(bO (fun k=>kd c m.needs[u]![c[u]!.toNat]![k]!) 0 m.needs[u]![c[u]!.toNat]!.length&& !kd c m.bars[u]![c[u]!.toNat]!)
def Ci (m:j7)(c:List Int):Bool:=decide (0<=c[0]!)&&bO (Ww m c) 0 c.length
def ChP (us:List c9)(c:List Int):Prop:=c.length=us.length/\∀u,u<us.length->-1<=c[u]! /\c[u]! <us[u]!.cands.length
def z7 (c:List Int)(u:Nat):Nat:=(c[u]! +1).toNat
def gI {α β:Type} [Inhabited α] [Inhabited β]{f:α->β}{l:List α}{i:Nat}(h:i<l.length):(l.map f)[i]! =f l[i]! :=by simp[h]
def Lx {us:List c9}{c:List Int}{x:Want}(hs:∀x∈us,x.cands.length<=16)(hc:ChP us c)(h0:0<=x.u)(h1:x.u<us.length):CZ c ⟨x.u,uF us x⟩=true↔SS us (z7 c) x:=by
 obtain⟨u,hu⟩:∃u:Nat,x.u=((u:Nat):Int):=⟨x.u.toNat,ae⟩
 have hul:u<us.length:=ae;have hcu:=hc.2 u hul;have h16:=hs _ (aq hul);unfold CZ SS z7;dsimp only;rw[hu,Int.toNat_natCast,aN,bn,bn,agZ];constructor
 .rintro⟨h2,i,h3,h4⟩;rw[NQ ae]at h4;obtain rfl:i=c[u]!.toNat+1:=by simpa using h4
  rw[show(c[u]! +1).toNat=c[u]!.toNat+1 by omega];exact h3
 .intro h2;have h3:=h2;rw[VM hu hul hs]at h3;simp only[aN,bn]at h3;refine⟨ae,(c[u]! +1).toNat,h2,bt_p ae ae⟩
def Li {c:List Int}{l:List dU}:kd c l=true↔∃x∈l,CZ c x=true:=by
 unfold kd;rw[wI];constructor
 .rintro⟨j,_,h2,h3⟩;exact⟨_,aq h2,h3⟩
 .rintro⟨x,hx,h⟩;obtain⟨j,hj,rfl⟩:=List.mem_iff_getElem.1 hx;exact⟨j,Nat.zero_le _,hj,by simpa[hj]using h⟩
def Ef {w:b6}(h:fN w=true){u k:Nat}(hu:u<w.us.length)(hk:k<w.us[u]!.cands.length):(∀r∈w.us[u]!.cands[k]!.needs,∀x∈r,0<=x.u/\x.u<w.us.length)/\∀x∈w.us[u]!.cands[k]!.bars,0<=x.u/\x.u<w.us.length:=by
 unfold fN at h;rw[aN,cb]at h;have h3:=h.2 u ae hu;unfold mY at h3;rw[aN,cb]at h3;have h4:=h3.2 k ae hk;unfold oG at h4;simp only[aN]at h4;have h5:=h4.1.2;unfold mM at h5;simp only[aN,bn]at h5;have hw:∀(l:List Want),pn (w.us.length:Int) l=true->∀x∈l,0<=x.u/\x.u<w.us.length:=by
  intro l hl x hx;unfold pn at hl;rw[cb]at hl;obtain⟨j,hj,rfl⟩:=List.mem_iff_getElem.1 hx;have:=hl j ae hj;unfold sT at this;simp only[hj,getElem!_pos,aN,bn]at this;omega
 refine⟨fun r hr=>?_,hw _ h5.2⟩;have h6:=h5.1.2;rw[cb]at h6;obtain⟨j,hj,rfl⟩:=List.mem_iff_getElem.1 hr;have:=h6 j ae hj;unfold rB at this;simp only[hj,getElem!_pos,aN]at this;exact hw _ this.1
def XH {us:List c9}{u k:Nat}(hu:u<us.length)(hk:k<us[u]!.cands.length):(dy us).needs[u]![k]! =kR us us[u]!.cands[k]!.needs:=by
 unfold dy eu eG;dsimp only;rw[List.take_length,gI hu,gI hk]
def abn {us:List c9}{u k:Nat}(hu:u<us.length)(hk:k<us[u]!.cands.length):(dy us).bars[u]![k]! =ew us us[u]!.cands[k]!.bars:=by
 unfold dy jx jy;dsimp only;rw[List.take_length,gI hu,gI hk]
def akx {w:b6}{c:List Int}(hw:fN w=true)(hs:∀x∈w.us,x.cands.length<=16)(hc:ChP w.us c)(h:Ci (dy w.us) c=true):SolP w.us (z7 c):=by
 have hpos:0<w.us.length:=by
  unfold fN at hw;simp only[aN,bn]at hw;omega
 unfold Ci at h;rw[aN,bn,cb,hc.1]at h;obtain⟨h0,hf⟩:=h;have hk:∀u,u<w.us.length->z7 c u≠0->c[u]!.toNat=z7 c u-1/\z7 c u-1<w.us[u]!.cands.length/\bO (fun k=>kd c (kR w.us w.us[u]!.cands[z7 c u-1]!.needs)[k]!) 0 (kR w.us w.us[u]!.cands[z7 c u-1]!.needs).length=true/\kd c (ew w.us w.us[u]!.cands[z7 c u-1]!.bars)=false:=by
  intro u hu hk;have hcu:=hc.2 u hu;have h1:=hf u (Nat.zero_le _) hu;have e:c[u]!.toNat=z7 c u-1:=by unfold z7 at*;omega
  have hl:z7 c u-1<w.us[u]!.cands.length:=by unfold z7 at*;omega
  unfold Ww at h1;rw[dI,bn]at h1;have h2:=h1.resolve_left (by unfold z7 at hk;omega);rw[e,XH hu hl,abn hu hl]at h2;rw[aN,cG]at h2;exact⟨e,hl,h2.1,h2.2⟩
 have hin:∀u,u<w.us.length->z7 c u≠0->(∀r∈w.us[u]!.cands[z7 c u-1]!.needs,∀x∈r,0<=x.u/\x.u<w.us.length)/\∀x∈w.us[u]!.cands[z7 c u-1]!.bars,0<=x.u/\x.u<w.us.length:=fun u hu h=>Ef hw hu (hk u hu h).2.1
 refine⟨hpos,by unfold z7;omega,fun u hu=>?_,fun u hu hk0 r hr=>?_,fun u hu hk0 x hx hm=>?_,hin⟩
 .have:=hc.2 u hu;unfold z7;omega
 .have h1:=(hk u hu hk0).2.2.1;rw[cb]at h1;obtain⟨j,hj,rfl⟩:=List.mem_iff_getElem.1 hr;have h2:=h1 j (Nat.zero_le _) (by unfold kR;simpa using hj);unfold kR at h2;rw[gI hj,Li]at h2;obtain⟨y,hy,hm⟩:=h2;unfold ew at hy;obtain⟨x,hx,rfl⟩:=cC.1 hy;simp only[hj,getElem!_pos]at hx;have:=(hin u hu hk0).1 _ hr x hx;exact⟨x,hx,(Lx hs hc this.1 this.2).1 hm⟩
 .have h1:=(hk u hu hk0).2.2.2;have hi:=(hin u hu hk0).2 x hx;have:kd c (ew w.us w.us[u]!.cands[z7 c u-1]!.bars)=true:=Li.2 ⟨_,cC.2 ⟨x,hx,rfl⟩,(Lx hs hc hi.1 hi.2).2 hm⟩;rw[h1]at this;cases this
def aiq (l k:Nat)(es:List D)(xs:List (List dU)):lg l k es (xs.map Ic)=xs.map Ic:=jE l k es _ (bH (fun _=>rfl) _)
def ack (l k:Nat)(es:List D)(xs:List (List (List dU))):lg l k es (xs.map oF)=xs.map oF:=jE l k es _ (bH (fun _=>rfl) _)
def WH (l k:Nat)(es:List D)(xs:List (List (List (List dU)))):lg l k es (xs.map qd)=xs.map qd:=jE l k es _ (bH (fun _=>rfl) _)
def acj (l k:Nat)(es:List D)(xs:List Int):lg l k es (xs.map (D.int .i64))=xs.map (D.int .i64):=jE l k es _ (bH (fun _=>rfl) _)
def UK {us:List c9}{l:List Want}{i:Nat}(h:i<l.length):ew us (l.take i)++[⟨l[i]!.u,uF us l[i]!⟩]=ew us (l.take (i+1)):=by
 unfold ew;rw[<-nI h];simp
def UL (us:List c9)(l:List Want)(i:Nat):(ew us (l.take i)).length<=i:=by
 unfold ew;rw[bj,eg];omega
def Uw {us:List c9}{l:List oz}{i:Nat}(h:i<l.length):kR us (l.take i)++[ew us l[i]!]=kR us (l.take (i+1)):=by
 unfold kR;rw[<-nI h];simp
def Ux (us:List c9)(l:List oz)(i:Nat):(kR us (l.take i)).length<=i:=by
 unfold kR;rw[bj,eg];omega
def OG {us:List c9}{l:List ei}{i:Nat}(h:i<l.length):eG us (l.take i)++[kR us l[i]!.needs]=eG us (l.take (i+1)):=by
 unfold eG;rw[<-nI h];simp
def OH (us:List c9)(l:List ei)(i:Nat):(eG us (l.take i)).length<=i:=by
 unfold eG;rw[bj,eg];omega
def S4 {us:List c9}{l:List ei}{i:Nat}(h:i<l.length):jy us (l.take i)++[ew us l[i]!.bars]=jy us (l.take (i+1)):=by
 unfold jy;rw[<-nI h];simp
def S5 (us:List c9)(l:List ei)(i:Nat):(jy us (l.take i)).length<=i:=by
 unfold jy;rw[bj,eg];omega
def OD {us:List c9}{i:Nat}(h:i<us.length):eu us i++[eG us us[i]!.cands]=eu us (i+1):=by
 unfold eu;rw[<-nI h];simp
def OE (us:List c9)(i:Nat):(eu us i).length<=i:=by
 unfold eu;rw[bj,eg];omega
def S2 {us:List c9}{i:Nat}(h:i<us.length):jx us i++[jy us us[i]!.cands]=jx us (i+1):=by
 unfold jx;rw[<-nI h];simp
def S3 (us:List c9)(i:Nat):(jx us i).length<=i:=by
 unfold jx;rw[bj,eg];omega
def Ky (c:List Int)(x:dU):Prop:=(0<=x.u/\x.u<c.length)/\c[x.u.toNat]! <=30
def FineP (m:j7)(c:List Int):Prop:=(0<c.length/\c.length<=1000/\m.needs.length=c.length/\m.bars.length=c.length)/\∀u,u<c.length->0<=c[u]! ->(c[u]!.toNat<m.needs[u]!.length/\c[u]!.toNat<m.bars[u]!.length)/\(∀r∈m.needs[u]![c[u]!.toNat]!,∀x∈r,Ky c x)/\∀x∈m.bars[u]![c[u]!.toNat]!,Ky c x
def gJ {α:Type} [Inhabited α]{f:α->Bool}:∀{l:List α}{k:Nat},(fY f l k=-1/\∀q,q<l.length->f l[q]! =false)\/∃j:Nat,fY f l k=((k+j:Nat):Int)/\j<l.length/\f l[j]! =true/\∀q,q<j->f l[q]! =false
 |[],k=>.inl ⟨rfl,fun q h=>absurd h (Nat.not_lt_zero q)⟩
 |x::r,k=>by
  rw[fY];split
  .rename_i h;exact .inr ⟨0,rfl,aG,ra,fun q h=>absurd h (Nat.not_lt_zero q)⟩
  .rename_i h;have hx:f x=false:=by simpa using h
   rcases gJ (f:=f) (l:=r) (k:=k+1)with⟨h1,h2⟩|⟨j,h1,h2,h3,h4⟩
   .refine .inl ⟨h1,fun q hq=>?_⟩;cases q with
    |zero=>simpa using hx
    |succ q=>simpa using h2 q (by simpa using hq)
   .refine .inr ⟨j+1,by rw[h1];omega,by simpa using h2,by simpa using h3,fun q hq=>?_⟩;cases q with
    |zero=>simpa using hx
    |succ q=>simpa using h4 q ae
def acB {α:Type} [Inhabited α]{f:α->Bool}{l:List α}{i:Nat}(h:i<l.length)(hf:f l[i]! =true):0<=fY f l 0/\fY f l 0<=i:=by
 rcases gJ (f:=f) (l:=l) (k:=0)with⟨h1,h2⟩|⟨j,h1,h2,h3,h4⟩
 .rw[h2 i h]at hf;cases hf
 .have:¬i<j:=fun hj=>by rw[h4 i hj]at hf;cases hf
  omega
def Fx (nm:av)(s:bN):Bool:=decide (s.name=nm)
def mg (l:List bN)(nm:av):Int:=fY (Fx nm) l 0
def DW (l:List bN)(i:Nat):Bool:=ie l[i]! &&decide (mg l l[i]!.name=(i:Nat))
def fJ (l:List bN):Bool:=decide (l.length<=4)&&bO (DW l) 0 l.length
def iP (l:List bN):Prop:=∀s∈l,∀x∈s.es,ic x.r
def adO {l:List bN}{i:Nat}(h:i<l.length):0<=mg l l[i]!.name/\mg l l[i]!.name<=i:=acB h (by simp[Fx])
def adN {l:List bN}{i:Nat}(h:ie l[i]! =false\/¬mg l l[i]!.name=(i:Nat)):DW l i=false:=by
 grind [DW]
def Zs {l:List bN}{i:Nat}(h:ie l[i]! =false\/mg l l[i]!.name<(i:Nat)):DW l i=false:=by
 grind [DW]
def MS {l:List bN}{i:Nat}(h:ie l[i]! =true/\mg l l[i]!.name=(i:Nat)):DW l i=true:=by
 grind [DW]
def UA {l:List bN}{i:Nat}(hi:i<l.length)(h:ie l[i]! =true/\¬mg l l[i]!.name<(i:Nat)):DW l i=true:=by
 have:=adO hi;exact MS ⟨h.1,ae⟩
def bN.fz (l k:Nat)(es:List Abs.D)(c:bN):iA l k es c.D=c.D:=gu l k es _ (by simp only[bN.D,D.aR,aL,gQ])
def jI (s:bN)(nm:av)(v:bZ):Int:=if ie s=false then-1 else sC s.es nm v 0
def nt (a b:av)(u:c9):Bool:=decide (u.name=a)&&decide (u.feat=b)
def il (us:List c9)(a b:av):Int:=fY (nt a b) (us.drop 1) 1
def Tx (v:bZ)(whole:Bool)(c:ei):Bool:=bif whole then decide (c.v=v)else decide (iL c.v v=0)
def mF (us:List c9)(u:Int)(v:bZ)(whole:Bool):Int:=if u<0 then-1 else fY (Tx v whole) us[u.toNat]!.cands 0
def ny (shop:List bN)(c:ei)(x:dm):Int:=
 if c.sh=-1 then(if x.shelf≠[]then 12 else if x.sum≠0 then 13 else 0)
 else if c.sh<0\/(shop.length:Int)<=c.sh\/shop[c.sh.toNat]!.name≠x.shelf then 12
 else if jI shop[c.sh.toNat]! x.name x.v<0\/shop[c.sh.toNat]!.es[(jI shop[c.sh.toNat]! x.name x.v).toNat]!.sum≠x.sum then 13 else 0
def xe (us:List c9)(x:dm):List av->List Int->Int×List Int
 |[],c=>(0,c)
 |f::r,c=>if mF us (il us x.name f) x.v false<0 then(11,c)else xe us x r (c.set (il us x.name f).toNat (mF us (il us x.name f) x.v false))
def kN (shop:List bN)(us:List c9)(x:dm)(c:List Int):Int×List Int:=
 if mF us (il us x.name []) x.v true<0 then(9,c)
 else if ny shop us[(il us x.name []).toNat]!.cands[(mF us (il us x.name []) x.v true).toNat]! x≠0 then(ny shop us[(il us x.name []).toNat]!.cands[(mF us (il us x.name []) x.v true).toNat]! x,c)
 else xe us x x.feats (c.set (il us x.name []).toNat (mF us (il us x.name []) x.v true))
def yX (shop:List bN)(us:List c9):List dm->List Int->List Int×Int×av
 |[],c=>(c,0,[])
 |x::r,c=>if(kN shop us x c).1≠0 then([],(kN shop us x c).1,x.name)else yX shop us r (kN shop us x c).2
structure wC where
 kind:Int
 unit:Int
 at':Int
 deriving Inhabited,DecidableEq
def wC.D (f:wC):D:=.agg [.int .i64 f.kind,.int .i64 f.unit,.int .i64 f.at']
def EI (w:b6)(c:List Int)(i:Nat):Bool:=decide (-1<=c[i]!)&&decide (c[i]! <(w.us[i]!.cands.length:Int))
def xb (w:b6)(c:List Int):Bool:=decide (c.length=w.us.length)&&bO (EI w c) 0 c.length
def ik (w:b6)(c:List Int):Bool:=fN w&&xb w c
def qH (w:b6)(c:List Int)(x:Want):Bool:=decide (0<=c[x.u.toNat]!)&&pM x.s w.us[x.u.toNat]!.cands[c[x.u.toNat]!.toNat]!.v
def E6 (w:b6)(c:List Int)(l:oz):Bool:=l.any (qH w c)
section
def qC {w:b6}{c:List Int}(h:xb w c=true):c.length=w.us.length/\∀i,i<c.length->-1<=c[i]! /\c[i]! <(w.us[i]!.cands.length:Int):=by
 simp only[xb,aN,bn,cb,EI]at h;exact⟨h.1,fun i hi=>h.2 i (Nat.zero_le _) hi⟩
def acS {w:b6}{c:List Int}(h:¬(c.length:Int)=(w.us.length:Int)\/fN w=false):ik w c=false:=by
 unfold ik xb;rcases h with h|h
 .rw[bI ae];simp
 .rw[h];rfl
def QV {w:b6}{c:List Int}{i:Nat}(h:c[i]! < -1\/(w.us[i]!.cands.length:Int)<=c[i]!):EI w c i=false:=by
 unfold EI;rcases h with h|h
 .rw[bI ae];rfl
 .rw[bI (p:=c[i]! <_) ae];simp
def KZ {w:b6}{c:List Int}{i:Nat}(h:¬c[i]! < -1/\¬(w.us[i]!.cands.length:Int)<=c[i]!):EI w c i=true:=by
 unfold EI;rw[bz ae,bz ae];rfl
def MetW (w:b6)(c:List Int)(x:Want):Prop:=(w.sm/\x.sm)/\(0<=x.u/\x.u<(w.us.length:Int))/\xb w c=true
def fF (w:b6)(c:List Int)(u:Nat)(l:List oz)(n:Nat):List wC:=(List.range n).flatMap fun k=>if E6 w c l[k]! =true then []else [⟨2,(u:Nat),(k:Nat)⟩]
def jY (w:b6)(c:List Int)(u:Nat)(l:List Want)(n:Nat):List wC:=(List.range n).flatMap fun k=>if qH w c l[k]! =true then [⟨3,(u:Nat),(k:Nat)⟩]else []
def aY (w:b6)(c:List Int)(u:Nat):ei:=w.us[u]!.cands[c[u]!.toNat]!
def A9 (w:b6)(c:List Int)(u:Nat):List wC:=fF w c u (aY w c u).needs (aY w c u).needs.length++jY w c u (aY w c u).bars (aY w c u).bars.length
def gB (w:b6)(c:List Int)(n:Nat):List wC:=(List.range n).flatMap fun u=>if c[u]! <0 then []else A9 w c u
def mq (w:b6)(c:List Int):List wC:=if ik w c=false then []else gB w c c.length
section
variable {w:b6} {c:List Int} {u n:Nat} {l:List oz} {b:List Want}
def OC (h:E6 w c l[n]! =true):fF w c u l (n+1)=fF w c u l n:=by simp only[fF,List.range_succ,List.flatMap_append,List.flatMap_cons,List.flatMap_nil,h];simp
def OB (h:E6 w c l[n]! =false):fF w c u l (n+1)=fF w c u l n++[⟨2,(u:Nat),(n:Nat)⟩]:=by simp only[fF,List.range_succ,List.flatMap_append,List.flatMap_cons,List.flatMap_nil,h];simp
def NK (h:qH w c b[n]! =true):jY w c u b (n+1)=jY w c u b n++[⟨3,(u:Nat),(n:Nat)⟩]:=by simp only[jY,List.range_succ,List.flatMap_append,List.flatMap_cons,List.flatMap_nil,h];simp
def NJ (h:qH w c b[n]! =false):jY w c u b (n+1)=jY w c u b n:=by simp only[jY,List.range_succ,List.flatMap_append,List.flatMap_cons,List.flatMap_nil,h];simp
def pV:∀n,(fF w c u l n).length<=n
 |0=>aP _
 |n+1=>by
  have:=pV n;cases h:E6 w c l[n]!
  .rw[OB h];simp;omega
  .rw[OC h];omega
def wM:∀n,(jY w c u b n).length<=n
 |0=>aP _
 |n+1=>by
  have:=wM n;cases h:qH w c b[n]!
  .rw[NJ h];omega
  .rw[NK h];simp;omega
def PY (h:0<=c[n]!):gB w c (n+1)=gB w c n++A9 w c n:=by
 simp only[gB,List.range_succ,List.flatMap_append,List.flatMap_cons,List.flatMap_nil,ai (show ¬c[n]! <0 by omega),gD]
def PX (h:c[n]! <0):gB w c (n+1)=gB w c n:=by simp only[gB,List.range_succ,List.flatMap_append,List.flatMap_cons,List.flatMap_nil,ak h,gD]
def ZS (h:0<=c[n]!):(gB w c n++fF w c n (aY w c n).needs (aY w c n).needs.length)++jY w c n (aY w c n).bars (aY w c n).bars.length=gB w c (n+1):=by
 rw[PY h,A9,fj]
end
def OneP (w:b6)(c:List Int)(u:Nat):Prop:=(w.sm/\fN w=true)/\xb w c=true/\u<c.length/\0<=c[u]!
def BK {w:b6}{c:List Int}{u:Nat}(h:OneP w c u):(c[u]!.toNat<w.us[u]!.cands.length/\c[u]! =((c[u]!.toNat:Nat):Int))/\((aY w c u).needs.length<=24/\(aY w c u).bars.length<=24)/\(∀r∈(aY w c u).needs,∀x∈r,MetW w c x)/\∀x∈(aY w c u).bars,MetW w c x:=by
 obtain⟨⟨h1,h2⟩,h3,h4,h5⟩:=h;obtain⟨h6,h7⟩:=qC h3;have h8:=h7 u h4;have hu:u<w.us.length:=ae;have hk:c[u]!.toNat<w.us[u]!.cands.length:=ae;have hin:=Ef h2 hu hk;have hs:=(h1 _ (aq hu)).2 _ (aq hk);have hl:(aY w c u).needs.length<=24/\(aY w c u).bars.length<=24:=by
  simp only[fN,aN,cb,mY,oG,mM,bn]at h2;have:=(h2.2 u (Nat.zero_le _) hu).2 _ (Nat.zero_le _) hk;exact⟨this.1.2.1.1.1,this.1.2.1.1.2⟩
 exact⟨⟨hk,ae⟩,hl,fun r hr x hx=>⟨⟨h1,hs.2.1 r hr x hx⟩,hin.1 r hr x hx,h3⟩,fun x hx=>⟨⟨h1,hs.2.2 x hx⟩,hin.2 x hx,h3⟩⟩
def LH {w:b6}{c:List Int}{u:Nat}(h:OneP w c u):(A9 w c u).length<=48:=by
 obtain⟨_,⟨h1,h2⟩,_⟩:=BK h;have h3:=pV (w:=w) (c:=c) (u:=u) (l:=(aY w c u).needs) (aY w c u).needs.length;have h4:=wM (w:=w) (c:=c) (u:=u) (b:=(aY w c u).bars) (aY w c u).bars.length;simp only[A9,ct];omega
def Ei {w:b6}{c:List Int}(hm:w.sm)(h:ik w c=true):∀n,n<=c.length->(gB w c n).length<=n*48
 |0,_=>Nat.zero_le _
 |n+1,hn=>by
  have h1:=Ei hm h n ae;simp only[ik,aN]at h;by_cases hc:c[n]! <0
  .rw[PX hc];omega
  .have:=LH (w:=w) (c:=c) (u:=n) ⟨⟨hm,h.1⟩,h.2,ae,ae⟩;rw[PY ae,ct];omega
def MW {w:b6}{c:List Int}{l:oz}:E6 w c l=oA (fun i=>qH w c l[i]!) 0 l.length:=by
 rw[Bool.eq_iff_iff,E6,List.any_eq_true,wI];constructor
 .rintro⟨x,hx,h⟩;obtain⟨i,hi,rfl⟩:=List.mem_iff_getElem.1 hx;exact⟨i,Nat.zero_le _,hi,by simpa[hi]using h⟩
 .rintro⟨i,_,hi,h⟩;exact⟨_,aq hi,h⟩
def WrgP (w:b6)(c:List Int):Prop:=w.sm/\0<=c[0]!
def Rh {w:b6}{c:List Int}{u:Nat}(hw:WrgP w c)(h:ik w c=true)(hu:u<c.length)(h0:0<=c[u]!):OneP w c u:=by
 simp only[ik,aN]at h;exact⟨⟨hw.1,h.1⟩,h.2,hu,h0⟩
def Oy {w:b6}{c:List Int}(h:ik w c=true):1<=c.length/\c.length<=48:=by
 simp only[ik,aN]at h;have h1:=qC h.2;simp only[fN,aN,bn]at h;omega
end
section
def qV {S:List Int}{i:Nat}(h:i<S.length)(v:Int):(S.map (D.int .i64)).set (0+i) (qb ((S.map (D.int .i64)).getD (0+i) .any) 1 1 0 (.int .i64 v))=(S.set i v).map (D.int .i64):=by
 rw[b8,getD_map (q:=D.int .i64) h,List.map_set];rfl
def BL {l:List kr}{nm:av}{v:bZ}:sC l nm v 0=-1\/∃j:Nat,sC l nm v 0=(j:Int)/\j<l.length:=by
 unfold sC;rw[cT];cases h:l.findIdx? (Ld nm v)with
 |none=>exact .inl rfl
 |some k=>
  have:=(List.findIdx?_eq_some_iff_getElem.1 h).1;exact .inr ⟨k,aG,this⟩
def yR {s:bN}{nm:av}{v:bZ}:jI s nm v=-1\/∃j:Nat,jI s nm v=(j:Int)/\j<s.es.length:=by
 unfold jI;split
 .exact .inl rfl
 .exact BL
def oC (s:bN)(nm:av)(v:bZ):kr×Bool:=if jI s nm v<0 then(default,false)else(s.es[(jI s nm v).toNat]!,true)
section
variable {shop:List bN} {c:ei} {x:dm}
def afc (h0:c.sh=-1)(h:¬x.shelf=[]):ny shop c x=12:=by grind [ny]
def shl_b (h0:c.sh=-1)(h:x.shelf=[])(h2:¬x.sum=0):ny shop c x=13:=by grind [ny]
def shl_c (h0:c.sh=-1)(h:x.shelf=[])(h2:x.sum=0):ny shop c x=0:=by grind [ny]
def afd (h0:¬c.sh=-1)(h:(c.sh<0\/(shop.length:Int)<=c.sh)\/¬shop[c.sh.toNat]!.name=x.shelf):ny shop c x=12:=by grind [ny]
def Zp (h0:¬c.sh=-1)(h1:(¬c.sh<0/\¬(shop.length:Int)<=c.sh)/\shop[c.sh.toNat]!.name=x.shelf)(h:(oC shop[c.sh.toNat]! x.name x.v).2=false\/¬(oC shop[c.sh.toNat]! x.name x.v).1.sum=x.sum):ny shop c x=13:=by grind [ny,oC]
def afe (h0:¬c.sh=-1)(h1:(¬c.sh<0/\¬(shop.length:Int)<=c.sh)/\shop[c.sh.toNat]!.name=x.shelf)(h:(oC shop[c.sh.toNat]! x.name x.v).2=true/\(oC shop[c.sh.toNat]! x.name x.v).1.sum=x.sum):ny shop c x=0:=by grind [ny,oC]
end
def yu {us:List c9}{a b:av}:il us a b=-1\/∃j:Nat,il us a b=(j:Int)/\1<=j/\j<us.length:=by
 unfold il;rcases gJ (f:=nt a b) (l:=us.drop 1) (k:=1)with⟨h,_⟩|⟨j,h,h2,_⟩
 .exact .inl h
 .rw[j5]at h2;exact .inr ⟨1+j,h,ae,ae⟩
def isU_y {a b:av}{u:c9}(h:u.name=a/\u.feat=b):nt a b u=true:=by simp[nt,h.1,h.2]
def isU_n {a b:av}{u:c9}(h:¬u.name=a\/¬u.feat=b):nt a b u=false:=by
 rcases h with h|h<;>simp[nt,h]
def isV_y {v:bZ}{c:ei}{t:Bool}(h:(t=true/\c.v=v)\/t=false/\iL c.v v=0):Tx v t c=true:=by
 rcases h with⟨rfl,h⟩|⟨rfl,h⟩<;>simp[Tx,h]
def isV_n {v:bZ}{c:ei}{t:Bool}(h:(t=false\/¬c.v=v)/\(t=true\/¬iL c.v v=0)):Tx v t c=false:=by
 cases t<;>simp_all[Tx]
def xT {us:List c9}{u:Int}{v:bZ}{t:Bool}:mF us u v t=-1\/∃j k:Nat,u=(j:Int)/\mF us u v t=(k:Int)/\k<us[j]!.cands.length:=by
 unfold mF;split
 .exact .inl rfl
 .rcases gJ (f:=Tx v t) (l:=us[u.toNat]!.cands) (k:=0)with⟨h,_⟩|⟨j,h,h2,_⟩
  .exact .inl h
  .exact .inr ⟨u.toNat,j,ae,ju,h2⟩
def K3 {us:List c9}{x:dm}:∀{l:List av}{c:List Int},(xe us x l c).2.length=c.length
 |[],c=>rfl
 |f::r,c=>by
  rw[xe];split
  .rfl
  .rw[K3,List.length_set]
def oK {us:List c9}{x:dm}{c:List Int}{l:List av}{i:Nat}(h:i<l.length):xe us x (l.drop i) c=if mF us (il us x.name l[i]!) x.v false<0 then(11,c)else xe us x (l.drop (i+1)) (c.set (il us x.name l[i]!).toNat (mF us (il us x.name l[i]!) x.v false)):=by
 rw[eV h,xe,show l[i]! =l[i]by simp[h]]
def xf {us:List c9}{x:dm}{c:List Int}{l:List av}{i:Nat}(h:l.length<=i):xe us x (l.drop i) c=(0,c):=by
 rw[j4 h,xe]
def Yu {shop:List bN}{us:List c9}{x:dm}{c:List Int}:(kN shop us x c).2.length=c.length:=by
 unfold kN;split
 .rfl
 .split
  .rfl
  .rw[K3,List.length_set]
def BD {shop:List bN}{us:List c9}{c:List Int}{l:List dm}{i:Nat}(h:i<l.length):yX shop us (l.drop i) c=if(kN shop us l[i]! c).1≠0 then([],(kN shop us l[i]! c).1,l[i]!.name)else yX shop us (l.drop (i+1)) (kN shop us l[i]! c).2:=by
 rw[eV h,yX,show l[i]! =l[i]by simp[h]]
def Lp {shop:List bN}{us:List c9}{c:List Int}{l:List dm}{i:Nat}(h:l.length<=i):yX shop us (l.drop i) c=(c,0,[]):=by
 rw[j4 h,yX]
def LinP (shop:List bN)(w:b6)(x:dm)(c:List Int):Prop:=(iP shop/\w.sm/\x.v.sm)/\c.length=w.us.length
end
section
section
variable {Y:Ctx} {draw:Bool} {r:List GI} {env rs:List aX} {nx:Nat} {m:List (Nat×bm)} {K:List aX->St->Prop} {g:Option (Nat×Bool)} {f:Bool}
def YB {x:Src}{ng:Bool}{d:D}(h:∀b,nlB d b->aA Y draw r env (⟨true,.bool (bif ng then !b else b)⟩::rs) nx m K)(hg:GF rs g true:=by first|exact rfl|exact⟨_,_,rfl,rfl⟩)(hx:bV env rs x=⟨true,d⟩:=by exact rfl)(hs:slB d:=by exact trivial):aA Y draw (⟨.isNl x ng,g⟩::r) env rs nx m K:=by
 unfold aA;show yT rs.reverse g/\(flag rs.reverse g=true->(Src.ev env rs.reverse x).ok=true/\slB (Src.ev env rs.reverse x).d/\∀b,nlB (Src.ev env rs.reverse x).d b->_)/\(flag rs.reverse g=false->_);obtain⟨hg1,hg2⟩:=hg.flag;rw[oJ,hx];refine⟨hg2,fun _=>⟨rfl,hs,fun b hb=>?_⟩,fun hh=>by rw[hg1]at hh;cases hh⟩;have:=h b hb;unfold aA at this;simpa using this
end
end
section
section
variable {Y:Ctx} {draw:Bool} {r:List GI} {env rs:List aX} {nx:Nat} {m:List (Nat×bm)} {K:List aX->St->Prop} {g:Option (Nat×Bool)} {f:Bool}
def r_mkM {L:Nat}{m2:List (Nat×bm)}(h:aA Y draw r env (⟨f,.fn 5000000 [.it L]⟩::rs) nx m2 K)(hg:GF rs g f:=by first|exact rfl|exact⟨_,_,rfl,rfl⟩)(hL:nx+rs.length=L:=by simp only[bE,b7,Nat.reduceAdd];exact rfl)(hm:cL m L (.mpb [])=m2:=by simp only[cL,cQ,Nat.reduceEqDiff,aZ,aU,Nat.reduceAdd,reduceCtorEq];exact rfl):aA Y draw (⟨.mkM,g⟩::r) env rs nx m K:=
 gv rfl hg _ (fun _=>trivial) (fun hf=>by simp only[ax.val,hL]) _ (by simp only[ax.bP,hL];exact hm) (fun _=>h)
def r_upM {x y z:Src}{l:Nat}{k:D}{q:IntKind}{a:Int}{kvs:List D}{m2:List (Nat×bm)}(kvs2:List D)(h:aA Y draw r env (⟨true,.any⟩::rs) nx m2 K)(hx:bV env rs x=⟨true,.fn 5000000 [.it l]⟩:=by exact rfl)(hy:bV env rs y=⟨true,k⟩:=by exact rfl)(hz:bV env rs z=⟨true,.int q a⟩:=by exact rfl)(hl:look m l=some (.mpb kvs):=by exact rfl)(hk:vK k=true:=by exact rfl)(hb:xA kvs=true)(he:Ae k (.int q a) kvs=kvs2)(hm:cL m l (.mpb kvs2)=m2:=by simp only[cL,cQ,Nat.reduceEqDiff,aZ,aU,Nat.reduceAdd,reduceCtorEq];exact rfl):aA Y draw (⟨.upM x y z,none⟩::r) env rs nx m K:=
 ph rfl _ (by simp only[ax.ey,hx,hy,hz,mpO,hl];exact⟨trivial,trivial,trivial,⟨trivial,hb⟩,hk,q,a,rfl⟩) (by simp only[ax.val]) _ (by simp only[ax.bP,hx,hy,hz,TJ,hl,he];exact hm) (fun _=>h)
def ae4 {x y:Src}{z:D}{fx fy:Bool}{l:Nat}{k:D}{kvs:List D}(v:D)(h:aA Y draw r env (⟨f,v⟩::rs) nx m K)(hg:GF rs g f:=by first|exact rfl|exact⟨_,_,rfl,rfl⟩)(hx:bV env rs x=⟨fx,.fn 5000000 [.it l]⟩:=by exact rfl)(hy:bV env rs y=⟨fy,k⟩:=by exact rfl)(kx:f=true->fx=true:=by first|exact fun _=>rfl|exact fun h=>h|(intro h;simp_all))(ky:f=true->fy=true:=by first|exact fun _=>rfl|exact fun h=>h|(intro h;simp_all))(hl:look m l=some (.mpb kvs):=by exact rfl)(hk:vK k=true:=by exact rfl)(hb:xA kvs=true)(hv:(match Ns k kvs with|some v=>D.tup [v,.bool true]|none=>D.tup [z,.bool false])=v):aA Y draw (⟨.lkM z x y,g⟩::r) env rs nx m K:=
 gv rfl hg _ (fun hf=>by simp only[ax.ey,hx,hy,mpO,hl];exact⟨kx hf,ky hf,⟨trivial,hb⟩,hk⟩) (fun hf=>by simp only[ax.val,hx,hy,TJ,hl];exact hv) m (by simp only[ax.bP]) (fun _=>h)
end
def bo.mp {lo c:Nat}{σ:List (Nat×Nat)}{m r:List (Nat×bm)}{l':Nat}{s s':List D}(l:Nat)(hl:mz lo σ l=some l')(hm:look m l=some (.mpb s))(hs:s'=s)(h:bo lo c σ m r):bo lo c σ m ((l',.mpb s')::r):=
 ⟨.inl ⟨l,_,hl,hm,hs⟩,h⟩
end
section
section
variable {shop:List bN} {us:List c9} {x:dm} {c:List Int} {j k:Nat}
def FQ (h:mF us (il us x.name []) x.v true<0):kN shop us x c=(9,c):=by rw[kN,ak h]
def Al (hj:il us x.name []=(j:Nat))(hk:mF us (il us x.name []) x.v true=(k:Nat))(h:¬ny shop us[j]!.cands[k]! x=0):kN shop us x c=(ny shop us[j]!.cands[k]! x,c):=by
 rw[kN,ai ae,hk,hj,Int.toNat_natCast,Int.toNat_natCast,ak h]
def ae2 (hj:il us x.name []=(j:Nat))(hk:mF us (il us x.name []) x.v true=(k:Nat))(h:ny shop us[j]!.cands[k]! x=0):kN shop us x c=xe us x x.feats (c.set j k):=by
 rw[kN,ai ae,hk,hj,Int.toNat_natCast,Int.toNat_natCast,ai ju]
end
def vH (us:List c9)(x:dm)(c:List Int):Nat->List Int
 |0=>c
 |i+1=>(vH us x c i).set (il us x.name x.feats[i]!).toNat (mF us (il us x.name x.feats[i]!) x.v false)
def Cs {us:List c9}{x:dm}{c:List Int}:∀i,(vH us x c i).length=c.length
 |0=>rfl
 |i+1=>by rw[vH,List.length_set,Cs]
def wu (a b:av):D:=.agg [.str a,.str b]
def yv (us:List c9)(a b:av):Int×Bool:=(if il us a b<0 then 0 else il us a b,decide (0<=il us a b))
def Vo (us:List c9)(kvs:List D):Prop:=xA kvs=true/\∀a b,(match Ns (wu a b) kvs with|some v=>D.tup [v,.bool true]|none=>D.tup [.int .i64 0,.bool false])=.tup [.int .i64 (yv us a b).1,.bool (yv us a b).2]
def Ij {us:List c9}{a b:av}(h:(yv us a b).2=false):il us a b<0:=by simpa[yv]using h
def ZK {us:List c9}{a b:av}(h:(yv us a b).2=true):∃j:Nat,il us a b=(j:Int)/\(yv us a b).1=(j:Int)/\1<=j/\j<us.length:=by
 have h0:0<=il us a b:=by simpa[yv]using h
 rcases yu (us:=us) (a:=a) (b:=b)with h1|⟨j,h1,h2,h3⟩
 .omega
 .exact⟨j,h1,by simp only[yv];rw[ai ae,h1],h2,h3⟩
def Yd {us:List c9}{u:Int}{j:Nat}{v:bZ}{t:Bool}(h:u=(j:Nat)):mF us u v t=fY (Tx v t) us[j]!.cands 0:=by
 rw[mF,ai ae,h,Int.toNat_natCast]
def ae1 {us:List c9}{u:Int}{j:Nat}{v:bZ}{t:Bool}(h:u=(j:Nat))(h2:¬mF us u v t<0):∃k:Nat,mF us u v t=(k:Int)/\k<us[j]!.cands.length:=by
 rcases xT (us:=us) (u:=u) (v:=v) (t:=t)with h3|⟨i,k,h3,h4,h5⟩
 .omega
 .have:i=j:=ae;exact⟨k,h4,this▸h5⟩
def Hx {us:List c9}{u:Int}{v:bZ}{t:Bool}(h:u<0):mF us u v t<0:=by rw[mF,ak h];decide
def PM (shop:List bN)(c:ei)(x:dm):Int:=if c.sh=-1 then 0 else shop[c.sh.toNat]!.es[(jI shop[c.sh.toNat]! x.name x.v).toNat]!.sum
def Vt (shop:List bN)(c:ei)(x:dm):Prop:=ny shop c x=if PM shop c x=x.sum then 0 else 13
section
variable {shop:List bN} {c:ei} {x:dm}
def sum_a (h:c.sh=-1/\x.shelf=[]):Vt shop c x/\PM shop c x=0:=by
 obtain⟨h1,h2⟩:=h;unfold Vt ny PM;rw[ak h1,ai (by simpa using h2),ak h1];refine⟨?_,rfl⟩;by_cases h3:x.sum=0
 .rw[ai (by simpa using h3),ak h3.symm]
 .rw[ak h3,ai (fun h=>h3 h.symm)]
def PN (h:¬c.sh=-1\/¬x.shelf=[])(h2:(c.sh<0\/(shop.length:Int)<=c.sh)\/¬shop[c.sh.toNat]!.name=x.shelf):ny shop c x=12:=by
 by_cases h0:c.sh=-1
 .exact afc h0 (h.resolve_left (by simpa using h0))
 .exact afd h0 h2
def PO (h2:(¬c.sh<0/\¬(shop.length:Int)<=c.sh)/\shop[c.sh.toNat]!.name=x.shelf)(h3:jI shop[c.sh.toNat]! x.name x.v<0):ny shop c x=13:=
 Zp ae h2 (.inl (by rw[oC,ak h3]))
def sum_c (h2:(¬c.sh<0/\¬(shop.length:Int)<=c.sh)/\shop[c.sh.toNat]!.name=x.shelf)(h3:¬jI shop[c.sh.toNat]! x.name x.v<0):Vt shop c x/\PM shop c x=shop[c.sh.toNat]!.es[(jI shop[c.sh.toNat]! x.name x.v).toNat]!.sum:=by
 have h4:PM shop c x=shop[c.sh.toNat]!.es[(jI shop[c.sh.toNat]! x.name x.v).toNat]!.sum:=by rw[PM,ai ae]
 have h5:oC shop[c.sh.toNat]! x.name x.v=(shop[c.sh.toNat]!.es[(jI shop[c.sh.toNat]! x.name x.v).toNat]!,true):=by rw[oC,ai h3]
 refine⟨?_,h4⟩;unfold Vt;rw[h4];split
 .rename_i h6;exact afe ae h2 (by rw[h5];exact⟨rfl,h6⟩)
 .rename_i h6;exact Zp ae h2 (by rw[h5];exact .inr h6)
end
def WG (l k:Nat)(es:List Abs.D)(c:List Int):lg l k es (c.map (D.int .i64))=c.map (D.int .i64):=jE l k es _ (bH (fun _=>rfl) _)
def dm.fz (l k:Nat)(es:List Abs.D)(c:dm):iA l k es c.D=c.D:=gu l k es _ (by simp only[dm.D,D.aR,aL,gQ])
end
def W4 (a b:de):de.D a=de.D b↔a=b:=by cases a;cases b;simp[de.D,W1]
def N8 (a b:List de):a.map de.D=b.map de.D↔a=b:=kL W4 a b
def WX (a b:br):br.D a=br.D b↔a=b:=by cases a;cases b;simp[br.D,N8]
def CF (a b:List br):a.map br.D=b.map br.D↔a=b:=kL WX a b
def iBar (a b:my):my.D a=my.D b↔a=b:=by cases a;cases b;simp[my.D]
def K7 (a b:List my):a.map my.D=b.map my.D↔a=b:=kL iBar a b
def WT (a b:ch):ch.D a=ch.D b↔a=b:=by cases a;cases b;simp[ch.D,W1]
def CE (a b:List ch):a.map ch.D=b.map ch.D↔a=b:=kL WT a b
def iRec (a b:Rec):Rec.D a=Rec.D b↔a=b:=by
 obtain⟨n,⟨v1,v2,v3,v4,v5⟩,x,y,z⟩:=a;obtain⟨n',⟨w1,w2,w3,w4,w5⟩,x',y',z'⟩:=b;simp[Rec.D,CF,K7,CE,and_assoc]
def iEtr (a b:kr):kr.D a=kr.D b↔a=b:=by
 obtain⟨⟨n,⟨v1,v2,v3,v4,v5⟩,x,y,z⟩,s,o⟩:=a;obtain⟨⟨n',⟨w1,w2,w3,w4,w5⟩,x',y',z'⟩,s',o'⟩:=b;simp[kr.D,CF,K7,CE,and_assoc]
def WS (a b:List kr):a.map kr.D=b.map kr.D↔a=b:=kL iEtr a b
def iShf (a b:bN):bN.D a=bN.D b↔a=b:=by cases a;cases b;simp[bN.D,WS]
def WZ (a b:List bN):a.map bN.D=b.map bN.D↔a=b:=kL iShf a b
def iEnv (a b:Env):Env.D a=Env.D b↔a=b:=by cases a;cases b;simp[Env.D]
def iLkd (a b:dm):dm.D a=dm.D b↔a=b:=by
 obtain⟨n,⟨v1,v2,v3,v4,v5⟩,x,y,z⟩:=a;obtain⟨n',⟨w1,w2,w3,w4,w5⟩,x',y',z'⟩:=b;simp[dm.D,W1,and_assoc]
def WW (a b:List dm):a.map dm.D=b.map dm.D↔a=b:=kL iLkd a b
def iLck (a b:jT):jT.D a=jT.D b↔a=b:=by
 obtain⟨⟨a1,a2,a3⟩,l⟩:=a;obtain⟨⟨b1,b2,b3⟩,k⟩:=b;simp[jT.D,WW,and_assoc]
def aeQ (a b:Bool):((bif a then 690 else 691)=(bif b then 690 else 691:Nat))↔a=b:=by cases a<;>cases b<;>simp
def Ca {A:FT->Prop}(h:A (fun d ds v s=>A fun d' ds' v' s'=>d'=d->ds'=ds->v=v'/\s=s'):=by
 (repeat' first|apply And.intro|intro _)
 all_goals rename_i e' e
 all_goals (try simp only[sY,D.str.injEq,D.int.injEq,D.bool.injEq,D.sl.injEq,D.ref.injEq,D.agg.injEq,D.fn.injEq,W1,Tt,iByt,iVer,W4,N8,WX,CF,iBar,K7,WT,CE,iRec,WS,iEtr,iShf,WZ,iEnv,iLkd,WW,iLck,iCut,aeM,W0,CG,iSet,W3,G2,W5,N9,iCnd,WR,iUnt,W2,iWld,iKey,iGs,aeQ,iU8,px,iNat,dj,dJ]at e e')
 all_goals first|rfl|(simp only[e,e'];done)|simp_all):yG (nV A):=abO h
structure Ask where
 allow:List Int
 order:List (List Int)
 deriving Inhabited
def jK (l:List Int):D:=.sl 1 (l.map (D.int .i64))
def Ask.D (a:Ask):D:=.agg [.sl 1 (a.allow.map (D.int .i64)),.sl 1 (a.order.map jK)]
def OI:Option (List Int)->D
 |none=>.aJ
 |some c=>.sl 1 (c.map (D.int .i64))
def wE (m:j7):Prop:=(0<m.needs.length/\m.needs.length<=48/\m.bars.length=m.needs.length/\m.full.length=m.needs.length)/\∀u,u<m.needs.length->(m.bars[u]!.length=m.needs[u]!.length/\m.needs[u]!.length<=16)/\
 (∀c∈m.needs[u]!,∀r∈c,r.length<=1000/\∀x∈r,0<=x.u/\x.u<m.needs.length)/\∀r∈m.bars[u]!,∀x∈r,0<=x.u/\x.u<m.needs.length
def Km (m:j7)(c:List Int):Prop:=c.length=m.needs.length/\∀u,u<m.needs.length->-1<=c[u]! /\c[u]! <m.needs[u]!.length
def KW {m:j7}{c:List Int}(hm:wE m)(hc:Km m c):FineP m c:=by
 obtain⟨h1,h2⟩:=hm;have hcl:=hc.1;refine⟨ae,fun u hu h0=>?_⟩;have hun:u<m.needs.length:=ae;have hcu:=hc.2 u hun;obtain⟨h3,h4,h5⟩:=h2 u hun;have hk:c[u]!.toNat<m.needs[u]!.length:=ae;have hM:∀x:dU,0<=x.u/\x.u<m.needs.length->Ky c x:=fun x hx=>by
  have a:=hc.2 x.u.toNat ae;have b:=(h2 x.u.toNat ae).1;exact⟨ae,ae⟩
 exact⟨⟨hk,ae⟩,fun r hr x hx=>hM x ((h4 _ (aq hk) r hr).2 x hx),fun x hx=>hM x (h5 _ (aq ae) x hx)⟩
def vy (m:j7)(c:List Int)(u:Nat):Bool:=decide (c[u]! <0) ||!kd c m.bars[u]![c[u]!.toNat]!
def yK (m:j7)(c:List Int):Bool:=bO (vy m c) 0 c.length
def H4 (m:j7)(c:List Int)(u:Nat):Nat:=mB (fun k=>kd c m.needs[u]![c[u]!.toNat]![k]!) m.needs[u]![c[u]!.toNat]!.length 0
def xK (m:j7)(c:List Int)(u:Nat):Bool:=decide (c[u]! <0) ||decide (H4 m c u=m.needs[u]![c[u]!.toNat]!.length)
def mR (m:j7)(c:List Int):Nat:=mB (xK m c) c.length 0
def ea (m:j7)(c:List Int):Int×Int:=if c[0]! <0 then(0,-1)else if mR m c<c.length then(((mR m c:Nat):Int),((H4 m c (mR m c):Nat):Int))else(-1,-1)
def Qx {f:Nat->Bool}:∀k i,i<=mB f k i/\mB f k i<=i+k
 |0,i=>by simp[mB]
 |k+1,i=>by
  have:=Qx (f:=f) k (i+1);rw[mB];split<;>omega
def KI {f:Nat->Bool}:∀k i,mB f k i<i+k->f (mB f k i)=false
 |0,i,h=>by simp[mB]at h
 |k+1,i,h=>by
  rw[mB]at h⊢;split
  .rename_i e;rw[ak e]at h;exact KI k (i+1) ae
  .rename_i e;simpa using e
def acb {m:j7}{c:List Int}(h1:yK m c=true)(h2:(ea m c).1<0):Ci m c=true:=by
 unfold ea at h2;split at h2
 .exact absurd h2 aT
 .rename_i h0;split at h2
  .exact absurd h2 mw
  .rename_i hi;unfold Ci;rw[bz (show 0<=c[0]! by omega),fT,cb];intro u _ hu;unfold yK at h1;rw[cb]at h1;have e1:=h1 u (Nat.zero_le _) hu;have e2:=B2 c.length 0 (by rw[b8];exact hi) u (Nat.zero_le _) ae;unfold vy at e1;unfold xK at e2;unfold Ww;by_cases hc:c[u]! <0
   .rw[bz hc];rfl
   .rw[bI hc,Bool.false_or]at e1 e2⊢;rw[e1,gQ,cb];intro k _ hk;rw[bn]at e2;have e3:=B2 (f:=fun k=>kd c m.needs[u]![c[u]!.toNat]![k]!) m.needs[u]![c[u]!.toNat]!.length 0 (by unfold H4 at e2;omega) k (Nat.zero_le _) ae;exact e3
def offB (l:List dU)(o:dU):Bool:=oA (fun i=>decide (l[i]! =o)) 0 l.length
def OK (mask u p:Int)(out:List dU):List dU:=if(decide (GR mask (2^(p.toNat+1))≠0)&& !offB out ⟨u,p⟩)=true then out++[⟨u,p⟩]else out
def jZ (mask u:Int)(ts:List Int):Nat->List dU->List dU
 |0,out=>out
 |i+1,out=>OK mask u ts[i]! (jZ mask u ts i out)
def bG (m:j7)(c:List Int):List dU:=if 0<=(ea m c).2 then m.needs[(ea m c).1.toNat]![c[(ea m c).1.toNat]!.toNat]![(ea m c).2.toNat]! else [⟨(ea m c).1,m.full[(ea m c).1.toNat]!⟩]
def C7 (mask u:Int)(ts:List Int):∀i out,(jZ mask u ts i out).length<=out.length+i
 |0,out=>aP _
 |i+1,out=>by
  have:=C7 mask u ts i out;rw[jZ];unfold OK;split
  .rw[ct,List.length_singleton];omega
  .omega
def Vq (m:j7)(c:List Int)(o:dU):Prop:=(0<=o.u/\o.u<m.needs.length)/\c[o.u.toNat]! <0/\0<=o.m/\o.m<m.needs[o.u.toNat]!.length
def RA {m:j7}{c:List Int}(hc:Km m c)(h0:0<m.needs.length)(h:¬(ea m c).1<0):(0<=(ea m c).1/\(ea m c).1<c.length)/\(0<=(ea m c).2->0<=c[(ea m c).1.toNat]! /\(ea m c).2<m.needs[(ea m c).1.toNat]![c[(ea m c).1.toNat]!.toNat]!.length):=by
 have hl:=hc.1;unfold ea at*
 split
 .exact⟨⟨aT,mw⟩,fun h=>absurd h aT⟩
 .rename_i h1;rw[ai h1]at h;split
  .rename_i h2;have h3:=KI (f:=xK m c) c.length 0 (by rw[b8];exact h2);have h4:=(Qx (f:=fun k=>kd c m.needs[mR m c]![c[mR m c]!.toNat]![k]!) m.needs[mR m c]![c[mR m c]!.toNat]!.length 0).2;rw[show mB (xK m c) c.length 0=mR m c from rfl]at h3;rw[b8,show mB (fun k=>kd c m.needs[mR m c]![c[mR m c]!.toNat]![k]!) m.needs[mR m c]![c[mR m c]!.toNat]!.length 0=H4 m c (mR m c)from rfl]at h4;unfold xK at h3;rw[gC,cK,cK]at h3;dsimp only;rw[Int.toNat_natCast];exact⟨⟨ae,ae⟩,fun _=>⟨ae,ae⟩⟩
  .rename_i h2;rw[ai h2]at h;exact absurd (by decide:((-1:Int),(-1:Int)).1<0) h
def Nc {m:j7}{c:List Int}(hm:wE m)(hc:Km m c)(h:¬(ea m c).1<0):(∀x∈bG m c,0<=x.u/\x.u<m.needs.length)/\(bG m c).length<=1000:=by
 obtain⟨⟨h0,_⟩,hM⟩:=hm;obtain⟨h1,h2⟩:=RA hc h0 h;have hl:=hc.1;unfold bG;split
 .rename_i h3;obtain⟨h4,h5⟩:=h2 h3;have hu:=hc.2 (ea m c).1.toNat ae;have h6:=(hM (ea m c).1.toNat ae).2.1 _ (aq (show c[(ea m c).1.toNat]!.toNat<m.needs[(ea m c).1.toNat]!.length by omega)) _ (aq (show(ea m c).2.toNat<m.needs[(ea m c).1.toNat]![c[(ea m c).1.toNat]!.toNat]!.length by omega));exact⟨h6.2,h6.1⟩
 .refine⟨fun x hx=>?_,aG⟩;obtain rfl:=aC.1 hx;exact⟨mw,mw⟩
def iN (f:dU->Option (List Int)):List dU->Option (List Int)
 |[]=>none
 |o::r=>match f o with
  |some c=>some c
  |none=>iN f r
def EW (c:List Int):Nat:=c.countP fun x=>decide (x<0)
def xU (c:List Int)(o:dU):List Int:=c.set o.u.toNat o.m
def LA:∀{c:List Int}{i:Nat}{v:Int},i<c.length->c[i]! <0->0<=v->EW (c.set i v)+1=EW c
 |[],i,v,h,_,_=>by simp at h
 |x::r,0,v,_,h1,h2=>by
  have h1:x<0:=h1;simp[EW,List.countP_cons,h1,show ¬v<0 by omega]
 |x::r,i+1,v,h,h1,h2=>by
  have:=LA (c:=r) (i:=i) (v:=v) ra (by simpa using h1) h2;simp only[EW,List.set_cons_succ,List.countP_cons]at this⊢;omega
def HA {m:j7}{c:List Int}{o:dU}(hc:Km m c)(ho:Vq m c o):Km m (xU c o)/\EW (xU c o)+1=EW c:=by
 obtain⟨h1,h2,h3,h4⟩:=ho;have hl:=hc.1;refine⟨⟨by unfold xU;rw[List.length_set];exact hl,fun u hu=>?_⟩,LA ae h2 h3⟩;unfold xU;by_cases e:o.u.toNat=u
 .subst e;rw[List.getElem!_eq_getElem?_getD,List.getElem?_set_self ae];exact⟨by dsimp only[Option.getD_some];omega,h4⟩
 .rw[List.getElem!_eq_getElem?_getD,List.getElem?_set_ne e,<-List.getElem!_eq_getElem?_getD];exact hc.2 u hu
def xa {f g:dU->Option (List Int)}:∀{l:List dU},(∀o∈l,f o=g o)->iN f l=iN g l
 |[],_=>rfl
 |o::r,h=>by
  rw[iN,iN,h o (.head _),xa (l:=r) fun o ho=>h o (.tail _ ho)]
def zY {f:dU->Option (List Int)}{d:List Int}:∀{l:List dU},iN f l=some d->∃o∈l,f o=some d
 |[],h=>by cases h
 |o::r,h=>by
  rw[iN]at h;split at h
  .rename_i c e;obtain rfl:=aW h;exact⟨o,.head _,e⟩
  .obtain⟨o',h1,h2⟩:=zY h;exact⟨o',.tail _ h1,h2⟩
def oa (n:Nat):List Int:=List.replicate n (-1)
def maskP {w:b6}(hw:fN w=true)(hs:∀x∈w.us,x.cands.length<=16)(hf:Few w.us):wE (dy w.us):=by
 have hpos:0<w.us.length/\w.us.length<=48:=by
  unfold fN at hw;simp only[aN,bn]at hw;omega
 have hn:(dy w.us).needs.length=w.us.length:=by simp[dy,eu]
 have hb:(dy w.us).bars.length=w.us.length:=by simp[dy,jx]
 have hfu:(dy w.us).full.length=w.us.length:=by simp[dy,iO]
 refine⟨⟨ae,ae,ae,ae⟩,fun u hu=>?_⟩;rw[hn]at hu⊢;have e1:(dy w.us).needs[u]! =eG w.us w.us[u]!.cands:=by unfold dy eu;dsimp only;rw[List.take_length,gI hu]
 have e2:(dy w.us).bars[u]! =jy w.us w.us[u]!.cands:=by unfold dy jx;dsimp only;rw[List.take_length,gI hu]
 have h16:=hs _ (aq hu);rw[e1,e2];refine⟨⟨by simp[eG,jy],by simpa[eG]using h16⟩,fun c hc r hr=>?_,fun r hr x hx=>?_⟩
 .unfold eG at hc;obtain⟨cd,h1,rfl⟩:=cC.1 hc;obtain⟨k,hk,rfl⟩:=List.mem_iff_getElem.1 h1;unfold kR at hr;obtain⟨r0,h2,rfl⟩:=cC.1 hr;have hfw:=(hf _ (aq hu) _ h1).2.2 r0 h2;refine⟨by simpa[ew]using hfw,fun x hx=>?_⟩;unfold ew at hx;obtain⟨y,h3,rfl⟩:=cC.1 hx;exact(Ef hw hu (k:=k) hk).1 r0 (by rw[getElem!_pos w.us[u]!.cands k hk];exact h2) y h3
 .unfold jy at hr;obtain⟨cd,h1,rfl⟩:=cC.1 hr;obtain⟨k,hk,rfl⟩:=List.mem_iff_getElem.1 h1;unfold ew at hx;obtain⟨y,h3,rfl⟩:=cC.1 hx;exact(Ef hw hu (k:=k) hk).2 y (by rw[getElem!_pos w.us[u]!.cands k hk];exact h3)
def xE (us:List c9):Km (dy us) (oa us.length):=by
 refine⟨by simp[oa,dy,eu],fun u hu=>?_⟩;have hul:u<us.length:=by simpa[dy,eu]using hu
 rw[show(oa us.length)[u]! =-1 by unfold oa;simp[hul]];exact⟨aT,ae⟩
def abH {us:List c9}{c:List Int}(h:Km (dy us) c):ChP us c:=by
 have hn:(dy us).needs.length=us.length:=by simp[dy,eu]
 refine⟨by rw[h.1,hn],fun u hu=>?_⟩;have h1:=h.2 u ae;have e1:(dy us).needs[u]!.length=us[u]!.cands.length:=by unfold dy eu;dsimp only;rw[List.take_length,gI hu];simp[eG]
 rw[e1]at h1;exact h1
def Rx:∀o:Option (List Int),slB (OI o)
 |none=>trivial
 |some _=>trivial
def N2 {f:dU->Option (List Int)}{l:List dU}{i:Nat}{d:List Int}(hi:i<l.length)(h:f l[i]! =some d):iN f (l.drop i)=some d:=by
 rw[eV hi,iN,<-getElem!_pos l i hi,h]
def KX {f:dU->Option (List Int)}{l:List dU}{i:Nat}(hi:i<l.length)(h:f l[i]! =none):iN f (l.drop i)=iN f (l.drop (i+1)):=by
 rw[eV hi,iN,<-getElem!_pos l i hi,h]
def N1 {f:dU->Option (List Int)}{l:List dU}{i:Nat}(hi:l.length<=i):iN f (l.drop i)=none:=by
 rw[j4 hi,iN]
def TN (i:Nat):oa i++[-1]=oa (i+1):=by unfold oa;rw[List.replicate_succ']
def TO (i:Nat):(oa i).length=i:=by unfold oa;exact List.length_replicate
def negD (ds:List D):Nat:=match ds.getD 2 .any with
 | .sl _ es=>es.countP fun d=>match d with
  | .int _ x=>decide (x<0)
  |_=>false
 |_=>0
def Rr {a b:D}{c:List Int}:negD [a,b,.sl 1 (c.map (D.int .i64))]=EW c:=by
 show(c.map (D.int .i64)).countP _=_;rw[List.countP_map];rfl
def iTr (a b:List dU):Ic a=Ic b↔a=b:=by simp[Ic,aeR]
def iTrL (a b:List (List dU)):a.map Ic=b.map Ic↔a=b:=kL iTr a b
def iTrs (a b:List (List dU)):oF a=oF b↔a=b:=by simp[oF,iTrL]
def aeS (a b:List (List (List dU))):a.map oF=b.map oF↔a=b:=kL iTrs a b
def iTrss (a b:List (List (List dU))):qd a=qd b↔a=b:=by simp[qd,aeS]
def aiF (a b:List (List (List (List dU)))):a.map qd=b.map qd↔a=b:=kL iTrss a b
def iMsk (a b:j7):j7.D a=j7.D b↔a=b:=by
 obtain⟨x,y,z⟩:=a;obtain⟨x',y',z'⟩:=b;simp[j7.D,Tt,aiF,aeS]
def WV (a b:List (List Int)):a.map jK=b.map jK↔a=b:=kL (fun x y=>by simp[jK,Tt]) a b
def iAsk (a b:Ask):Ask.D a=Ask.D b↔a=b:=by
 obtain⟨x,y⟩:=a;obtain⟨x',y'⟩:=b;simp[Ask.D,Tt,WV]
def EK (l:List av)(s:av):Int:=if fY (fun t=>decide (t=s)) l 0<0 then 0 else fY (fun t=>decide (t=s)) l 0
def cS (g:Gs)(own:av):av×Gs:=if cF[(g.val 4).toNat]! =own then(cF[((g.aS.val 3+1+EK cF own)%4).toNat]!,g.aS.aS)else(cF[(g.val 4).toNat]!,g.aS)
def dG (g:Gs)(own:av):de×Gs:=(⟨(cS g own).1,j2[((cS g own).2.val 8).toNat]!,[],decide (0<(cS g own).2.aS.val 3)⟩,(cS g own).2.aS.aS)
def gU (g:Gs)(own:av):List de×Gs:=
 if(dG g own).2.val 6=0 then([(dG g own).1,(dG (dG g own).2.aS own).1],(dG (dG g own).2.aS own).2)
 else if(dG g own).2.val 6=1 then([{(dG g own).1 with feats:=[fW]}],(dG g own).2.aS)else([(dG g own).1],(dG g own).2.aS)
def osY:av:=[111,115,32,61,32,108,105,110,117,120]
def osN:av:=[111,115,32,33,61,32,108,105,110,117,120]
def jB (g:Gs):av×Gs:=(if g.val 8=0 then osY else if g.val 8=1 then osN else [],g.aS)
def Ht (g:Gs):av×Gs:=(if g.val 5=0 then [111]else [],g.aS)
def mb (g:Gs)(own:av):br×Gs:=(⟨(gU g own).1,(jB (gU g own).2).1,(Ht (jB (gU g own).2).2).1⟩,(Ht (jB (gU g own).2).2).2)
def TW (l:List br):Bool:=l.any fun n=>decide (n.option=[111])
def iu:List br->Gs->Option av×Gs
 |[],g=>(none,g)
 |n::r,g=>if n.any.length=1 then(if g.val 3=0 then(some n.any[0]!.name,g.aS)else iu r g.aS)else iu r g
def ofG (l:List br)(g:Gs):List av×Gs:=((if TW l=true then [[63,111]]else [])++(match(iu l g).1 with|some s=>[s++[47,102]]|none=>[]),(iu l g).2)
def mN (g:Gs)(l:List br):ch×Gs:=(⟨[102],(ofG l g).1⟩,(ofG l g).2)
def nS (own:av)(g:Gs):Nat->List br×Gs
 |0=>([],g)
 |i+1=>((nS own g i).1++[(mb (nS own g i).2 own).1],(mb (nS own g i).2 own).2)
def eA (g:Gs)(own:av):List my×Gs:=if g.val 5=0 then([⟨(cS g.aS own).1,j2[((cS g.aS own).2.val 8).toNat]!,[]⟩],(cS g.aS own).2.aS)else([],g.aS)
def kZ (g:Gs)(l:List br):List ch×Gs:=if g.val 2=0 then([(mN g.aS l).1],(mN g.aS l).2)else([],g.aS)
def pj (g:Gs)(nm:av)(v:bZ)(most:Int):Rec×Gs:=
 let a:=nS nm g.aS (g.val (most+1)).toNat
 let b:=eA a.2 nm
 let c:=kZ b.2 a.1
 (⟨nm,v,a.1,b.1,c.1⟩,c.2)
def kO (s:bN)(r:Rec):bN×Int:=
 if ie s=false then(default,1)else if(fg r).2≠0 then(default,(fg r).2)else if 0<=sC s.es r.name r.v 0 then(default,8)else if 64<=s.es.length then(default,10)else(⟨s.name,s.es++[⟨r,wm r,false⟩]⟩,0)
def ow (s:bN)(nm:av)(v:bZ)(on:Bool):bN×Int:=
 if ie s=false then(default,1)else if sC s.es nm v 0<0 then(default,9)else(⟨s.name,s.es.set (sC s.es nm v 0).toNat {s.es[(sC s.es nm v 0).toNat]! with off:=on}⟩,0)
def qS (l:List bN)(k:Nat)(p:bN×Int):List bN:=if p.2=0 then l.set k p.1 else l
def lG (g:Gs)(l:List bN):List bN×Gs:=
 let k:=(g.val l.length).toNat
 let nm:=cF[(g.aS.val 4).toNat]!
 let v:=bU[(g.aS.aS.val 4).toNat]!
 let h:=g.aS.aS.aS
 if h.val 6=0 then(qS l k (ow l[k]! nm v (decide (0<h.aS.val 3))),h.aS.aS)else(qS l k (kO l[k]! (pj h.aS nm v 2).1),(pj h.aS nm v 2).2)
def MR:List bN:=[⟨Re,[]⟩,⟨AN,[]⟩]
def pS (g:Gs):Nat->List bN×Gs
 |0=>(MR,g)
 |i+1=>lG (pS g i).2 (pS g i).1
def en (ks:List Int)(most:Int):List bN:=(pS (⟨ks,0⟩:Gs).aS ((⟨ks,0⟩:Gs).val (most+1)).toNat).1
def W6 (l:List av)(s:av):0<=EK l s/\EK l s<=l.length:=by
 unfold EK;rcases gJ (f:=fun t=>decide (t=s)) (l:=l) (k:=0)with⟨h,_⟩|⟨j,h,h2,_⟩
 .rw[h];simp
 .rw[h,ai ae];omega
def oZ (n:Int)(g g':Gs):Prop:=g.i<=g'.i/\g'.i<=g.i+n
def oZ.tr {n k:Int}{a b c:Gs}(h:oZ n a b)(h2:oZ k b c):oZ (n+k) a c:=by unfold oZ at*;omega
def xP (g:Gs)(own:av):oZ 2 g (cS g own).2:=by unfold cS oZ;split<;>simp only[Gs.aS]<;>omega
def BR (g:Gs)(own:av):oZ 4 g (dG g own).2:=by
 have:=xP g own;simp only[oZ,dG,Gs.aS]at*;omega
def VC (g:Gs)(own:av):oZ 9 g (gU g own).2:=by
 have h1:=BR g own;have h2:=BR (dG g own).2.aS own;unfold gU;simp only[oZ,Gs.aS]at*
 split
 .simp only;omega
 .split<;>simp only<;>omega
def Rq (g:Gs)(own:av):oZ 11 g (mb g own).2:=by
 have h1:=VC g own;simp only[oZ,mb,jB,Ht,Gs.aS]at*;omega
def Hw:∀(l:List br) (g:Gs),oZ l.length g (iu l g).2
 |[],g=>by simp[oZ,iu]
 |n::r,g=>by
  have h1:=Hw r g;have h2:=Hw r g.aS;simp only[oZ,Gs.aS,bE]at*
  rw[iu];split
  .split<;>simp only[Gs.aS]<;>omega
  .omega
def xB (own:av)(g:Gs):∀i:Nat,oZ (11*i) g (nS own g i).2/\(nS own g i).1.length=i
 |0=>⟨by simp[oZ,nS],rfl⟩
 |i+1=>by
  have h1:=xB own g i;have h2:=Rq (nS own g i).2 own;simp only[oZ,nS,ct,bE,b7]at*
  omega
def GN (g:Gs)(own:av):oZ 4 g (eA g own).2:=by
 have:=xP g.aS own;unfold eA;simp only[oZ,Gs.aS]at*
 split<;>simp only<;>omega
def GY (g:Gs)(l:List br):oZ (1+l.length) g (kZ g l).2:=by
 have:=Hw l g.aS;unfold kZ;simp only[oZ,Gs.aS,mN,ofG]at*
 split<;>simp only<;>omega
def akh (g:Gs)(nm:av)(v:bZ):oZ 30 g (pj g nm v 2).2:=by
 have h4:=(g.Sk (2+1)).1 ae;show oZ 30 g (kZ (eA (nS nm g.aS (g.val (2+1)).toNat).2 nm).2 (nS nm g.aS (g.val (2+1)).toNat).1).2;generalize g.val (2+1)=z at h4⊢;have h1:=xB nm g.aS z.toNat;have h2:=GN (nS nm g.aS z.toNat).2 nm;have h3:=GY (eA (nS nm g.aS z.toNat).2 nm).2 (nS nm g.aS z.toNat).1;generalize nS nm g.aS z.toNat=a at*
 generalize eA a.2 nm=b at*
 generalize kZ b.2 a.1=c at*
 simp only[oZ,Gs.aS]at*
 omega
def ajV (g:Gs)(l:List bN):oZ 34 g (lG g l).2:=by
 have h1:=akh g.aS.aS.aS.aS cF[(g.aS.val 4).toNat]! bU[(g.aS.aS.val 4).toNat]!;by_cases h:g.aS.aS.aS.val 6=0
 .rw[show lG g l=_ from ak h];simp only[oZ,Gs.aS];omega
 .rw[show lG g l=_ from ai h];simp only[oZ,Gs.aS]at*;omega
def adk (g:Gs)(l:List bN):(lG g l).1.length=l.length:=by
 simp only[lG,qS];split<;>simp only<;>split<;>simp
def RH (g:Gs):∀i:Nat,oZ (34*i) g (pS g i).2/\(pS g i).1.length=2
 |0=>⟨by simp[oZ,pS],rfl⟩
 |i+1=>by
  have h1:=RH g i;have h2:=ajV (pS g i).2 (pS g i).1;have h3:=adk (pS g i).2 (pS g i).1;simp only[oZ,pS]at*
  omega
def nT {α:Type} [Inhabited α]{l:List α}{P:α->Prop}(hd:P default)(h:∀x∈l,P x)(i:Nat):P l[i]! :=by
 by_cases hi:i<l.length
 .exact h _ (aq hi)
 .rw[show l[i]! =default by simp[List.getElem!_eq_getElem?_getD,List.getElem?_eq_none (Nat.le_of_not_lt hi)]];exact hd
def y5 (i:Nat):cF[i]!.length<=3:=nT (P:=fun s:av=>s.length<=3) aT aT i
def y9 (g:Gs)(own:av):(cS g own).1.length<=3:=by
 unfold cS;split<;>exact y5 _
def HH {g:Gs}:ki j2[(g.val 8).toNat]! :=by
 have:=g.eI 8 ae;exact aq (by simp only[j2,bE,b7];omega)
def Sl (g:Gs)(own:av):(dG g own).1.sm:=⟨⟨by have:=y9 g own;simp only[dG];omega,HH⟩,fun _ h=>ca⟩
def agK (g:Gs)(own:av):∀w∈(gU g own).1,w.sm:=by
 have h1:=Sl g own;have h2:=Sl (dG g own).2.aS own;unfold gU;split
 .intro w hw;simp only[b9,cV,or_false]at hw;rcases hw with rfl|rfl<;>assumption
 .split
  .intro w hw;rw[aC.1 hw];exact⟨h1.1,fun t ht=>by rw[aC.1 ht];decide⟩
  .intro w hw;rw[aC.1 hw];exact h1
def ac1 (g:Gs)(own:av):(mb g own).1.sm:=by
 refine⟨agK g own, ?_, ?_⟩
 .show oQ (jB (gU g own).2).1;unfold jB oQ;simp only;split
  .decide
  .split<;>decide
 .show(Ht (jB (gU g own).2).2).1.length<=1048576;unfold Ht;simp only;split<;>decide
def Rk (own:av)(g:Gs):∀i,∀n∈(nS own g i).1,n.sm
 |0=>fun _ h=>by cases h
 |i+1=>fun n h=>by
  rcases List.mem_append.1 h with h|h
  .exact Rk own g i n h
  .rw[aC.1 h];exact ac1 _ _
structure iH where
 name:av
 shelf:av
 deriving Inhabited,DecidableEq
def iH.D (x:iH):D:=.agg [.str x.name,.str x.shelf]
structure kv where
 name:av
 range:av
 deriving Inhabited,DecidableEq
def kv.D (x:kv):D:=.agg [.str x.name,.str x.range]
structure gV where
 r:Rec
 ps:List iH
 hs:List kv
 deriving Inhabited,DecidableEq
def gV.D (x:gV):D:=.agg [.str x.r.name,.int .i64 x.r.v.major,.int .i64 x.r.v.minor,.int .i64 x.r.v.patch,.str x.r.v.pre,.str x.r.v.build,.sl 3 (x.r.needs.map br.D),.sl 3 (x.r.bars.map my.D),.sl 2 (x.r.feats.map ch.D),.sl 2 (x.ps.map iH.D),.sl 2 (x.hs.map kv.D)]
def LS (l:List iH)(i:Nat):Int:=if(dn l[i]!.name=false\/dn l[i]!.shelf=false)\/(0<i/\Op.bytesLess l[i-1]!.name l[i]!.name=false)then 15 else 0
def Cw (l:List kv)(i:Nat):Int:=if dn l[i]!.name=false\/(0<i/\Op.bytesLess l[i-1]!.name l[i]!.name=false)then 4 else if qN l[i]!.range=false then 6 else 0
def Db (l:List iH):Int×Int:=gO (LS l) 0 l.length
def Cy (l:List kv):Int×Int:=gO (Cw l) 0 l.length
def kC (m:gV):Int×Int:=if ¬(c7 m.r).1=0 then c7 m.r else if 8<m.ps.length\/8<m.hs.length then(3,0)else if ¬(Db m.ps).1=0 then Db m.ps else Cy m.hs
def Xu (m:gV):Prop:=ic m.r/\∀h∈m.hs,ki h.range
structure uA where
 r:Rec
 sh:Int
 deriving Inhabited,DecidableEq
def uA.D (x:uA):D:=.agg [.str x.r.name,.int .i64 x.r.v.major,.int .i64 x.r.v.minor,.int .i64 x.r.v.patch,.str x.r.v.pre,.str x.r.v.build,.sl 3 (x.r.needs.map br.D),.sl 3 (x.r.bars.map my.D),.sl 2 (x.r.feats.map ch.D),.int .i64 x.sh]
def uG (l:List uA):D:=.sl 10 (l.map uA.D)
instance keyDec:DecidableEq Key:=fun a b=>decidable_of_iff (a.n=b.n/\a.f=b.f) (by cases a;cases b;simp)
structure jv where
 k:Key
 s:cy
 deriving Inhabited,DecidableEq
def jv.D (a:jv):D:=.agg [.str a.k.n,.str a.k.f,.sl 14 (a.s.rel.map Span.D),.sl 14 (a.s.pr.map Span.D)]
abbrev fK:=List jv
def dR (r:fK):D:=.sl 4 (r.map jv.D)
structure cD where
 l:List gV
 shop:List bN
 e:Env
 keeps:List Kp
 pins:List iH
 deriving Inhabited,DecidableEq
def cD.D (y:cD)(f:D):D:=.agg [.sl 11 (y.l.map gV.D),.sl 2 (y.shop.map bN.D),.str y.e.e0,.str y.e.e1,.str y.e.e2,.sl 6 (y.keeps.map Kp.D),.sl 2 (y.pins.map iH.D),f]
def linW:av:=[108,105,110,117,120]
def FI (w:av)(e:Env):Bool:=if w=osY then decide (e.e0=[]) ||decide (e.e0=linW)else if w=osN then !decide (e.e0=linW)else true
def eS (x:de):List Key:=(if x.bare=true then(if x.feats=[]then [⟨x.name,[]⟩]else [])else [⟨x.name,nM⟩])++x.feats.map fun f=>⟨x.name,f⟩
def bC (a b c:Int):Cut:=⟨0,⟨a,b,c,[],[]⟩,false⟩
def a1W:av:=[97,46,49]
def gT:List cy:=[⟨PU,[]⟩,⟨[⟨bC 1 0 0,bC 2 0 0⟩],[]⟩,⟨[⟨bC 1 2 0,bC 1 2 1⟩],[]⟩,⟨[⟨bC 1 2 0,Lj⟩],[]⟩,⟨[⟨Cj,bC 2 0 0⟩],[]⟩,
 ⟨[⟨bC 2 0 0,bC 3 0 0⟩],[⟨⟨0,⟨2,0,0,a1W,[]⟩,false⟩,bC 2 0 0⟩]⟩,⟨[⟨bC 1 0 0,bC 1 0 1⟩,⟨bC 2 0 0,bC 2 0 1⟩],[]⟩,⟨[⟨Cj,bC 1 2 0⟩,⟨bC 1 2 1,Lj⟩],[]⟩]
def eR (s:av):cy:=gT[(fY (fun t=>decide (t=s)) j2 0).toNat]!
def plnW:av:=[112,108,97,110,57]
def qy:List Env:=[⟨[],[],[]⟩,⟨linW,[],[]⟩,⟨plnW,[],[]⟩]
def kX (e:Env):Prop:=e∈qy
def iG (n:br):List fK:=if n.any.length=1 then(eS n.any[0]!).map fun k=>[⟨k,eR n.any[0]!.range⟩]else [n.any.map fun w=>⟨(eS w)[0]!,eR w.range⟩]
def Bb (e:Env)(o:av)(n:br):List fK:=if n.option=o/\FI n.when' e=true then iG n else []
def qL (ns:List br)(e:Env)(o:av):List fK:=ns.flatMap (Bb e o)
def ru (e:Env)(nm ft:av)(n:br):List fK:=if(n.any.length=1/\n.any[0]!.name=nm)/\FI n.when' e=true then(if n.option=[]then []else iG n)++[[⟨⟨nm,ft⟩,eR n.any[0]!.range⟩]]else []
def iT (ns:List br)(e:Env)(nm ft:av):List fK:=ns.flatMap (ru e nm ft)
def lZ (r:Rec)(e:Env)(s:av):List fK:=if(bL s).1=1 then [[⟨⟨r.name,(bL s).2.1⟩,er r.v⟩]]else if(bL s).1=2 then qL r.needs e (bL s).2.1 else iT r.needs e (bL s).2.1 (bL s).2.2
def uT (l:List ch)(ft:av):List av:=if findF l ft 0<0 then []else l[(findF l ft 0).toNat]!.of
def dc (r:Rec)(e:Env)(ft:av):List fK:=if ft=[]then qL r.needs e []else [[⟨⟨r.name,[]⟩,er r.v⟩]]++(uT r.feats ft).flatMap (lZ r e)
def eC (l:List gV):List fK:=l.map fun m=>[⟨⟨m.r.name,nM⟩,er m.r.v⟩]
def fZ:Key:=⟨[],[]⟩
def eX (a b:Key):Bool:=Op.bytesLess a.n b.n ||(decide (a.n=b.n)&&Op.bytesLess a.f b.f)
def EN (l:List Key)(k:Key)(i:Nat):Nat:=i+((l.drop i).takeWhile fun x=>eX x k).length
def sD (l:List Key)(k:Key):List Key:=if EN l k 0<l.length/\l[EN l k 0]! =k then l else(l.take (EN l k 0)++[k])++l.drop (EN l k 0)
def eP (l:List Key)(k:Key):Int:=fY (fun x=>decide (x=k)) l 0
def isM (nm:av)(m:gV):Bool:=decide (m.r.name=nm)
def lF (l:List gV)(nm:av):Int:=fY (isM nm) l 0
def Cv (nm:av)(s:bN):Bool:=s.es.any fun x=>decide (x.r.name=nm)
def Ai (l:List iH):Bool:=bO (fun i=>decide (LS l i=0)) 0 l.length
def E0 (l:List iH)(nm:av):Int:=fY (fun p=>decide (p.name=nm)) l 0
def gp (shop:List bN)(pins:List iH)(nm:av):Int×Int:=
 if fJ shop=false then(0,1)else if Ai pins=false then(0,15)
 else if 0<=E0 pins nm then(if mg shop pins[(E0 pins nm).toNat]!.shelf<0 then(0,12)else(mg shop pins[(E0 pins nm).toNat]!.shelf,0))
 else if fY (Cv nm) shop 0<0 then(0,9)else(fY (Cv nm) shop 0,0)
def A4 (es:List kr)(l:List Int)(i k:Nat):Nat:=k+((l.drop k).takeWhile fun j=>decide (iL es[j.toNat]!.r.v es[i]!.r.v<0)).length
def G7 (es:List kr)(l:List Int)(i:Nat):List Int:=(l.take (A4 es l i 0)++[(i:Int)])++l.drop (A4 es l i 0)
def eB (es:List kr)(nm:av):Nat->List Int
 |0=>[]
 |i+1=>if es[i]!.r.name=nm then G7 es (eB es nm i) i else eB es nm i
def ke (s:bN)(nm:av):List Int:=if ie s=false then []else eB s.es nm s.es.length
def cM (shop:List bN)(pins:List iH)(nm:av):Int×List Int×Int:=if(gp shop pins nm).2≠0 then(0,[],(gp shop pins nm).2)else((gp shop pins nm).1,ke shop[(gp shop pins nm).1.toNat]! nm,0)
def Lh (ks:List Kp)(r:Rec):Bool:=ks.any fun k=>decide (k.name=r.name)&&LI k.v r.v
def kI (l:List gV)(nm:av):cy:=if l[0]!.hs.length≠0/\l[0]!.hs[0]!.name=nm then eR l[0]!.hs[0]!.range else pD
def Se (y:cD)(nm:av)(x:kr):Bool:=(!x.off ||Lh y.keeps x.r)&&pM (kI y.l nm) x.r.v
def iS (y:cD)(nm:av)(at':Nat):List Int->List uA
 |[]=>[]
 |i::r=>(if Se y nm y.shop[at']!.es[i.toNat]! =true then [⟨y.shop[at']!.es[i.toNat]!.r,(at':Int)⟩]else [])++iS y nm at' r
def dK (y:cD)(nm:av):List uA:=
 if 0<=lF y.l nm then [⟨y.l[(lF y.l nm).toNat]!.r,-1⟩]else if(cM y.shop y.pins nm).2.2≠0 then []else iS y nm (cM y.shop y.pins nm).1.toNat (cM y.shop y.pins nm).2.1
def XM (ft:av)(x:uA):Bool:=decide (ft=[]) ||isF x.r.feats ft
def eH (y:cD)(k:Key):List uA:=(dK y k.n).filter (XM k.f)
def df (y:cD)(k:Key):List fK:=if k=fZ then eC y.l else(eH y k).flatMap fun x=>dc x.r y.e k.f
structure oY where
 all:List Key
 todo:List Key
 deriving Inhabited,DecidableEq
def me (s:oY)(a:jv):oY:=if s.all.length<(sD s.all a.k).length then⟨sD s.all a.k,s.todo++[a.k]⟩else s
def OY (s:oY)(r:List fK):oY:=r.foldl (fun s row=>row.foldl me s) s
def Bg (y:cD)(s:oY):oY:=OY ⟨s.all,s.todo.drop 1⟩ (df y s.todo[0]!)
def Be (y:cD):Nat->oY->Option (List Key)
 |0,_=>none
 |n+1,s=>if s.todo.length=0 then some s.all else if 48<(Bg y s).all.length then none else Be y n (Bg y s)
def oE:oY:=⟨[fZ],[fZ]⟩
def mG (y:cD):Option (List Key):=Be y 49 oE
def dL (all:List Key)(l:List fK):List oz:=l.map fun r=>r.map fun a=>⟨eP all a.k,a.s⟩
def qq (all:List Key)(e:Env)(b:my):List Want:=if 0<=eP all ⟨b.name,[]⟩/\FI b.when' e=true then [⟨eP all ⟨b.name,[]⟩,eR b.range⟩]else []
def wN (all:List Key)(r:Rec)(e:Env):List Want:=r.bars.flatMap (qq all e)
def dX (y:cD)(all:List Key)(k:Key)(x:uA):ei:=⟨x.r.v,x.sh,dL all (dc x.r y.e k.f),if k.f=[]then wN all x.r y.e else []⟩
def ou (c:ei):Bool:=decide (24<c.needs.length) ||decide (24<c.bars.length)
def fE (y:cD)(all:List Key)(k:Key):List ei×Bool:=
 if k=fZ then([⟨zV,-1,dL all (eC y.l),[]⟩],true)
 else if((eH y k).map (dX y all k)).any ou=true then([],false)else((eH y k).map (dX y all k),decide ((dK y k.n).length<=16))
def sQ (y:cD)(all:List Key)(k:Key):c9:=⟨k.n,k.f,(fE y all k).1⟩
def nD (y:cD)(all:List Key):Nat->List c9×Bool
 |0=>([],true)
 |i+1=>if(nD y all i).2=true then((nD y all i).1++[sQ y all all[i]!],(fE y all all[i]!).2)else nD y all i
def fO (y:cD):b6×Bool:=match mG y with
 |none=>(⟨[]⟩,false)
 |some all=>(⟨(nD y all all.length).1⟩,(nD y all all.length).2)
def gK (l:List gV):List iH:=l[0]!.ps
def gY (l:List gV)(shop:List bN)(e:Env)(keeps:List Kp):b6×Int:=
 if fJ shop=false\/o8 e=false then(⟨[]⟩,1)else if(gK l).any (fun p=>decide (mg shop p.shelf<0))=true then(⟨[]⟩,12)
 else if(fO ⟨l,shop,e,keeps,gK l⟩).2=false then(⟨[]⟩,10)else((fO ⟨l,shop,e,keeps,gK l⟩).1,0)
end Go.Abs
section
namespace Go.Abs
variable {Y:Ctx}(hm:(Y.at 0).bR)
def qoW:av:=[63,111]
def qR (l:List br)(i:Nat):List av:=if TW (l.take i)=true then [qoW]else []
def FK {l:List br}{i:Nat}(h:i<l.length):TW (l.take (i+1))=(TW (l.take i) ||decide (l[i]!.option=[111])):=by
 have e:l.take (i+1)=l.take i++[l[i]!]:=by
  rw[List.take_add_one,List.getElem?_eq_getElem h];simp[h]
 rw[e];simp[TW]
def akm {l:List br}{i:Nat}(h:i<l.length)(h2:l[i]!.option=[111]/\((qR l i).length:Int)=0):qR l (i+1)=[qoW]:=by
 unfold qR;rw[FK h,ak (by rw[bz h2.1,Bool.or_true])]
def akl {l:List br}{i:Nat}(h:i<l.length)(h2:¬l[i]!.option=[111]\/¬((qR l i).length:Int)=0):qR l i=qR l (i+1):=by
 unfold qR at*
 rw[FK h];rcases h2 with h2|h2
 .simp only[bI h2,Bool.or_false]
 .split at h2
  .rename_i h3;rw[h3];rfl
  .simp at h2
def gS (l:List br)(g:Gs):Nat->Gs
 |0=>g
 |i+1=>if l[i]!.any.length=1 then(gS l g i).aS else gS l g i
def aeF (l:List br)(g:Gs):∀i:Nat,oZ (i:Int) g (gS l g i)
 |0=>by simp[oZ,gS]
 |i+1=>by
  have:=aeF l g i;rw[gS];split<;>simp only[oZ,Gs.aS]at* <;>omega
def ajG {l:List br}{g:Gs}{i:Nat}(h:i<l.length)(h1:l[i]!.any.length=1)(h2:(gS l g i).val 3=0):iu (l.drop i) (gS l g i)=(some l[i]!.any[0]!.name,(gS l g i).aS):=by
 rw[eV h,iu,show l[i]=l[i]! by simp[h],ak h1,ak h2]
def ajH {l:List br}{g:Gs}{i:Nat}(h:i<l.length)(h1:l[i]!.any.length=1)(h2:¬(gS l g i).val 3=0):iu (l.drop i) (gS l g i)=iu (l.drop (i+1)) (gS l g (i+1)):=by
 rw[eV h,iu,show l[i]=l[i]! by simp[h],ak h1,ai h2,gS,ak h1]
def ajI {l:List br}{g:Gs}{i:Nat}(h:i<l.length)(h1:¬l[i]!.any.length=1):iu (l.drop i) (gS l g i)=iu (l.drop (i+1)) (gS l g (i+1)):=by
 rw[eV h,iu,show l[i]=l[i]! by simp[h],ai h1,gS,ai h1]
def ajJ {l:List br}{g:Gs}{i:Nat}(h:l.length<=i):iu (l.drop i) (gS l g i)=(none,gS l g i):=by
 rw[j4 h,iu]
def MD (l:List br):qR l l.length=if TW l=true then [qoW]else []:=by rw[qR,List.take_length]
def ME (l:List br)(i:Nat):(qR l i).length<=1:=by unfold qR;split<;>simp
def Wp {l:List br}{g:Gs}{i:Nat}(hr:iu l g=iu (l.drop i) (gS l g i))(h:i<l.length)(h1:l[i]!.any.length=1)(h2:(gS l g i).val 3=0):mN g l=(⟨[102],qR l l.length++[l[i]!.any[0]!.name++[47,102]]⟩,(gS l g i).aS):=by
 rw[mN,ofG,hr,ajG h h1 h2,MD];rfl
def Wq {l:List br}{g:Gs}{i:Nat}(hr:iu l g=iu (l.drop i) (gS l g i))(h:l.length<=i):mN g l=(⟨[102],qR l l.length⟩,gS l g i):=by
 rw[mN,ofG,hr,ajJ h,MD];simp only[gD];rfl
end Go.Abs
namespace Go.Abs
variable {Y:Ctx}(hm:(Y.at 0).bR)
section
variable {s:bN} {r:Rec} {nm:av} {v:bZ} {on:Bool}
def put_1 (h:ie s=false):kO s r=(default,1):=by rw[kO,ak h]
def put_2 (h:ie s=true)(h2:¬(fg r).2=0):kO s r=(default,(fg r).2):=by rw[kO,ai fV,ak h2]
def put_3 (h:ie s=true)(h2:(fg r).2=0)(h3:0<=sC s.es r.name r.v 0):kO s r=(default,8):=by rw[kO,ai fV,ai (by simp[h2]),ak h3]
def put_4 (h:ie s=true)(h2:(fg r).2=0)(h3:¬0<=sC s.es r.name r.v 0)(h4:64<=s.es.length):kO s r=(default,10):=by rw[kO,ai fV,ai (by simp[h2]),ai h3,ak h4]
def put_5 (h:ie s=true)(h2:(fg r).2=0)(h3:¬0<=sC s.es r.name r.v 0)(h4:¬64<=s.es.length):kO s r=(⟨s.name,s.es++[⟨r,wm r,false⟩]⟩,0):=by rw[kO,ai fV,ai (by simp[h2]),ai h3,ai h4]
def akN (h:ie s=false):ow s nm v on=(default,1):=by rw[ow,ak h]
def akO (h:ie s=true)(h2:sC s.es nm v 0<0):ow s nm v on=(default,9):=by rw[ow,ai fV,ak h2]
def akP {j:Nat}(h:ie s=true)(h2:sC s.es nm v 0=(j:Nat)):ow s nm v on=(⟨s.name,s.es.set j {s.es[j]! with off:=on}⟩,0):=by
 rw[ow,ai fV,ai ae,h2,Int.toNat_natCast]
end
def Rec.fz (l k:Nat)(es:List Abs.D)(c:Rec):iA l k es c.D=c.D:=gu l k es _ (by simp only[Rec.D,D.aR,aL,gQ])
def H9 {α:Type} [Inhabited α]{q:α->D}{xs:List α}{i k n o:Nat}{v:D}{y:α}(h:i<xs.length)(he:qb (q xs[i]!) k n o v=q y):(xs.map q).set (0+i) (qb ((xs.map q).getD (0+i) .any) k n o v)=(xs.set i y).map q:=by
 rw[b8,getD_map h,he,List.map_set]
end Go.Abs
namespace Go.Abs
variable {Y:Ctx}(hm:(Y.at 0).bR)
section
variable {g:Gs} {l:List bN}
def kG (g:Gs)(l:List bN):Nat:=(g.val l.length).toNat
def nmG (g:Gs):av:=cF[(g.aS.val 4).toNat]!
def vrG (g:Gs):bZ:=bU[(g.aS.aS.val 4).toNat]!
def UY (g:Gs)(l:List bN):bN×Int:=ow l[kG g l]! (nmG g) (vrG g) (decide (0<g.aS.aS.aS.aS.val 3))
def rcG (g:Gs):Rec×Gs:=pj g.aS.aS.aS.aS (nmG g) (vrG g) 2
def UW (g:Gs)(l:List bN):bN×Int:=kO l[kG g l]! (rcG g).1
def Yj (h:g.aS.aS.aS.val 6=0)(h2:(UY g l).2=0):lG g l=(l.set (kG g l) (UY g l).1,g.aS.aS.aS.aS.aS):=by
 rw[show lG g l=(qS l (kG g l) (UY g l),g.aS.aS.aS.aS.aS)from ak h,qS,ak h2]
def Yk (h:g.aS.aS.aS.val 6=0)(h2:¬(UY g l).2=0):lG g l=(l,g.aS.aS.aS.aS.aS):=by
 rw[show lG g l=(qS l (kG g l) (UY g l),g.aS.aS.aS.aS.aS)from ak h,qS,ai h2]
def Yl (h:¬g.aS.aS.aS.val 6=0)(h2:(UW g l).2=0):lG g l=(l.set (kG g l) (UW g l).1,(rcG g).2):=by
 rw[show lG g l=(qS l (kG g l) (UW g l),(rcG g).2)from ai h,qS,ak h2]
def Ym (h:¬g.aS.aS.aS.val 6=0)(h2:¬(UW g l).2=0):lG g l=(l,(rcG g).2):=by
 rw[show lG g l=(qS l (kG g l) (UW g l),(rcG g).2)from ai h,qS,ai h2]
end
def tA (i:Nat):bU[i]!.sm:=nT (P:=fun v:bZ=>v.sm) ⟨aT,aT⟩ (by
 intro v hv;simp only[bU,b9,cV,or_false]at hv;rcases hv with rfl|rfl|rfl|rfl<;>exact⟨aT,aT⟩) i
def C0 {i:Nat}(h:i<4):cF[i]! ∈cF:=aq h
def LN (g:Gs)(own:av):(cS g own).1∈cF:=by
 have r4:=g.eI 4 ae;have r3:=g.aS.eI 3 ae;have rz:=W6 cF own;unfold cS;split
 .exact C0 ae
 .exact C0 ae
def agJ (g:Gs)(own:av):∀w∈(gU g own).1,w.name∈cF:=by
 have h1:=LN g own;have h2:=LN (dG g own).2.aS own;unfold gU;split
 .intro w hw;simp only[b9,cV,or_false]at hw;rcases hw with rfl|rfl<;>assumption
 .split<;>intro w hw<;>rw[aC.1 hw]<;>exact h1
def XB (own:av)(g:Gs):∀i,∀n∈(nS own g i).1,∀w∈n.any,w.name∈cF
 |0=>fun _ h=>by cases h
 |i+1=>fun n h=>by
  rcases List.mem_append.1 h with h|h
  .exact XB own g i n h
  .rw[aC.1 h];exact agJ _ _
def Hv:∀(l:List br) (g:Gs),(∀n∈l,∀w∈n.any,w.name∈cF)->∀s,(iu l g).1=some s->s∈cF
 |[],g,_,s,h=>by cases h
 |n::r,g,hl,s,h=>by
  rw[iu]at h;split at h
  .rename_i h1;split at h
   .simp only[aD]at h;rw[<-h];exact hl n (.head _) _ (aq ae)
   .exact Hv r _ (fun n hn=>hl n (.tail _ hn)) s h
  .exact Hv r _ (fun n hn=>hl n (.tail _ hn)) s h
def aeZ {l:List br}{g:Gs}(hl:∀n∈l,∀w∈n.any,w.name∈cF):(ofG l g).1∈ofL:=by
 have h:=Hv l g hl;unfold ofG;simp only;cases hp:(iu l g).1 with
 |none=>split<;>decide
 |some s=>
  have hs:=h s hp;simp only[cF,b9,cV,or_false]at hs;rcases hs with rfl|rfl|rfl|rfl<;>split<;>decide
def YV (g:Gs){nm:av}{v:bZ}(hn:nm.length<=3)(hv:v.sm):ic (pj g nm v 2).1:=by
 refine⟨⟨by show nm.length<=_;omega,hv⟩,Rk nm g.aS _, ?_, ?_⟩
 .show ∀b∈(eA (nS nm g.aS (g.val (2+1)).toNat).2 nm).1,b.sm
  unfold eA;split
  .intro b hb;rw[aC.1 hb];exact⟨by have:=y9 (nS nm g.aS (g.val (2+1)).toNat).2.aS nm;simp only;omega,HH,show([]:av)∈Ly by decide⟩
  .intro b hb;cases hb
 .show(kZ (eA (nS nm g.aS (g.val (2+1)).toNat).2 nm).2 (nS nm g.aS (g.val (2+1)).toNat).1).1∈Cd;unfold kZ;split
  .exact .tail _ (cC.2 ⟨_,aeZ (XB nm g.aS _),rfl⟩)
  .exact .head _
def R8 {l:List bN}{k:Nat}{p:bN×Int}(h:iP l)(hp:∀x∈p.1.es,ic x.r):iP (qS l k p):=by
 unfold qS;split
 .intro s hs;rcases List.mem_or_eq_of_mem_set hs with h1|rfl
  .exact h s h1
  .exact hp
 .exact h
def ad2 {s:bN}{nm:av}{v:bZ}{on:Bool}(h:∀x∈s.es,ic x.r):∀x∈(ow s nm v on).1.es,ic x.r:=by
 unfold ow;split
 .intro x hx;cases hx
 .split
  .intro x hx;cases hx
  .rename_i h2;obtain⟨j,hj,hjl⟩:=(BL (l:=s.es) (nm:=nm) (v:=v)).resolve_left ae;rw[hj,Int.toNat_natCast];intro x hx;rcases List.mem_or_eq_of_mem_set hx with h1|rfl
   .exact h x h1
   .exact h s.es[j]! (aq hjl)
def ajW {s:bN}{r:Rec}(h:∀x∈s.es,ic x.r)(hr:ic r):∀x∈(kO s r).1.es,ic x.r:=by
 unfold kO;split
 .intro x hx;cases hx
 .split
  .intro x hx;cases hx
  .split
   .intro x hx;cases hx
   .split
    .intro x hx;cases hx
    .intro x hx;rcases List.mem_append.1 hx with h1|h1
     .exact h x h1
     .rw[aC.1 h1];exact hr
def G0 {l:List bN}(h:iP l)(k:Nat):∀x∈l[k]!.es,ic x.r:=nT (P:=fun s:bN=>∀x∈s.es,ic x.r) (fun _ h=>ca) h k
def ajU {g:Gs}{l:List bN}(h:iP l):iP (lG g l).1:=by
 by_cases h1:g.aS.aS.aS.val 6=0
 .rw[show lG g l=(qS l (kG g l) (UY g l),g.aS.aS.aS.aS.aS)from ak h1];exact R8 h (ad2 (G0 h _))
 .rw[show lG g l=(qS l (kG g l) (UW g l),(rcG g).2)from ai h1];exact R8 h (ajW (G0 h _) (YV _ (y5 _) (tA _)))
def X6 (g:Gs):∀i,iP (pS g i).1
 |0=>fun s hs=>by
  simp only[pS,MR,b9,cV,or_false]at hs;rcases hs with rfl|rfl<;>intro x hx<;>cases hx
 |i+1=>ajU (X6 g i)
def DV (ks:List Int)(most:Int):iP (en ks most):=X6 _ _
end Go.Abs
end
namespace Go.Abs
variable {Y:Ctx}(hm:(Y.at 0).bR)
def cR (ord:List (List Int))(u:Int):List Int:=if u<(ord.length:Int)then ord[u.toNat]! else []
def Tq (l:List Int)(x:Int):Bool:=oA (fun k=>decide (l[k]! =x)) 0 l.length
def cI (o:List Int)(n:Nat):Nat->List Int
 |0=>o
 |i+1=>if Tq (cI o n i) ((n:Int) -1-(i:Int))=true then cI o n i else cI o n i++[(n:Int) -1-(i:Int)]
def M1 (m:j7)(ord:List (List Int))(u:Int):List Int:=cI (cR ord u) m.needs[u.toNat]!.length m.needs[u.toNat]!.length
def yH (m:j7)(ord:List (List Int)):Prop:=∀u:Nat,u<m.needs.length->(cR ord u).length<=16/\∀p∈cR ord u,0<=p/\p<m.needs[u]!.length
def Sg {o:List Int}{n:Nat}(ho:∀p∈o,0<=p/\p<(n:Int)):∀i,i<=n->(∀p∈cI o n i,0<=p/\p<(n:Int))/\(cI o n i).length<=o.length+i
 |0,_=>⟨ho,aP _⟩
 |i+1,h=>by
  obtain⟨h1,h2⟩:=Sg ho i ae;rw[cI];split
  .exact⟨h1,ae⟩
  .refine⟨fun p hp=>?_,Kk⟩;rcases List.mem_append.1 hp with hp|hp
   .exact h1 p hp
   .obtain rfl:=aC.1 hp;omega
def FH (m:j7)(ord:List (List Int))(c:List Int)(x:dU)(out:List dU):List dU:=if 0<=c[x.u.toNat]! then out else jZ x.m x.u (M1 m ord x.u) (M1 m ord x.u).length out
def dQ (m:j7)(ord:List (List Int))(c:List Int)(l:List dU):Nat->List dU
 |0=>[]
 |k+1=>FH m ord c l[k]! (dQ m ord c l k)
def ed (m:j7)(ord:List (List Int))(c:List Int):List dU:=if(ea m c).1<0 then []else dQ m ord c (bG m c) (bG m c).length
def LF {m:j7}{c:List Int}{mask u:Int}{ts:List Int}(hu:(0<=u/\u<m.needs.length)/\c[u.toNat]! <0)(ht:∀p∈ts,0<=p/\p<m.needs[u.toNat]!.length):∀i out,i<=ts.length->(∀o∈out,Vq m c o)->(∀o∈jZ mask u ts i out,Vq m c o)/\(jZ mask u ts i out).length<=out.length+i
 |0,out,_,h=>⟨h,aP _⟩
 |i+1,out,hi,h=>by
  obtain⟨h1,h2⟩:=LF (mask:=mask) hu ht i out ae h;have hg:=ht _ (aq (show i<ts.length by omega));rw[jZ];unfold OK;split
  .refine⟨fun o ho=>?_,Kk⟩;rcases List.mem_append.1 ho with ho|ho
   .exact h1 o ho
   .obtain rfl:=aC.1 ho;exact⟨hu.1,hu.2,hg.1,hg.2⟩
  .exact⟨h1,ae⟩
def Ie {m:j7}{ord:List (List Int)}(h16:∀u,u<m.needs.length->m.needs[u]!.length<=16)(hO:yH m ord){u:Int}(hu:0<=u/\u<m.needs.length):(∀p∈M1 m ord u,0<=p/\p<m.needs[u.toNat]!.length)/\(M1 m ord u).length<=32:=by
 obtain⟨h1,h2⟩:=hO u.toNat ae;rw[show((u.toNat:Nat):Int)=u by omega]at h1 h2;obtain⟨h3,h4⟩:=Sg h2 m.needs[u.toNat]!.length (aP _);have:=h16 u.toNat ae;exact⟨h3,by unfold M1;omega⟩
def xJ {m:j7}{ord:List (List Int)}{c:List Int}{l:List dU}(h16:∀u,u<m.needs.length->m.needs[u]!.length<=16)(hO:yH m ord)(hl:∀x∈l,0<=x.u/\x.u<m.needs.length):∀k,k<=l.length->(∀o∈dQ m ord c l k,Vq m c o)/\(dQ m ord c l k).length<=32*k
 |0,_=>⟨fun o ho=>(by cases ho),Nat.zero_le _⟩
 |k+1,hk=>by
  obtain⟨h1,h2⟩:=xJ h16 hO hl k ae;have hx:=hl _ (aq (show k<l.length by omega));rw[dQ];unfold FH;split
  .exact⟨h1,ae⟩
  .obtain⟨ht,ht2⟩:=Ie h16 hO hx;obtain⟨h4,h5⟩:=LF (mask:=l[k]!.m) ⟨hx,ae⟩ ht (M1 m ord l[k]!.u).length (dQ m ord c l k) (aP _) h1;exact⟨h4,ae⟩
def qK {m:j7}{ord:List (List Int)}{c:List Int}(hm:wE m)(hO:yH m ord)(hc:Km m c):(∀o∈ed m ord c,Vq m c o)/\(ed m ord c).length<=32000:=by
 unfold ed;split
 .exact⟨fun o ho=>(by cases ho),aG⟩
 .rename_i h;obtain⟨h1,h2⟩:=Nc hm hc h;obtain⟨h3,h4⟩:=xJ (c:=c) (fun u hu=>(hm.2 u hu).1.2) hO h1 (bG m c).length (aP _);exact⟨h3,ae⟩
def DZ (m:j7)(ord:List (List Int)):Nat->List Int->Option (List Int)
 |0,_=>none
 |f+1,c=>if yK m c=false then none else if(ea m c).1<0 then some c else iN (fun o=>DZ m ord f (xU c o)) (ed m ord c)
def mi (m:j7)(ord:List (List Int))(c:List Int):Option (List Int):=DZ m ord (EW c+1) c
def D0 {m:j7}{ord:List (List Int)}{c:List Int}(hm:wE m)(hO:yH m ord)(hc:Km m c):mi m ord c=if yK m c=false then none else if(ea m c).1<0 then some c else iN (fun o=>mi m ord (xU c o)) (ed m ord c):=by
 rw[mi,DZ];congr 2;refine xa fun o ho=>?_
 have:=(HA hc ((qK hm hO hc).1 o ho)).2;rw[mi,this]
def oU {m:j7}{ord:List (List Int)}(hm:wE m)(hO:yH m ord){d:List Int}:∀(f:Nat) (c:List Int),Km m c->DZ m ord f c=some d->Ci m d=true/\Km m d
 |0,c,_,h=>by cases h
 |f+1,c,hc,h=>by
  rw[DZ]at h;split at h
  .cases h
  .rename_i h1;split at h
   .rename_i h2;obtain rfl:=aW h;exact⟨acb (by simpa using h1) h2,hc⟩
   .obtain⟨o,h3,h4⟩:=zY h;exact oU hm hO f _ (HA hc ((qK hm hO hc).1 o h3)).1 h4
def lM (us:List c9)(ord:List (List Int)):Option (List Int):=mi (dy us) ord (oa us.length)
def GH:av:=[97,112,112]
def j0 (g:Gs):List iH×Gs:=if g.val 4=0 then([⟨cF[(g.aS.val 4).toNat]!,AN⟩],g.aS.aS)else([],g.aS)
def Cx (g:Gs):List kv×Gs:=if g.val 4=0 then([⟨cF[(g.aS.val 4).toNat]!,j2[(g.aS.aS.val 8).toNat]!⟩],g.aS.aS.aS)else([],g.aS)
def jA (ks:List Int):Rec×Gs:=pj ⟨ks,0⟩ GH bU[0]! 3
def y4 (ks:List Int):gV:=⟨(jA ks).1,(j0 (jA ks).2).1,(Cx (j0 (jA ks).2).2).1⟩
def Xt:gV:=⟨⟨GH,bU[0]!,[],[],[]⟩,[],[]⟩
def fD (ks:List Int):gV:=if(kC (y4 ks)).1=0 then y4 ks else Xt
def Vn (m:gV):Prop:=((kC m).1=0/\Xu m)/\m.ps.length<=1/\m.hs.length<=1
def wG (l:List gV):Prop:=∃m,l=[m]/\Vn m
def adw (g:Gs){nm:av}{v:bZ}(most:Int)(hn:nm.length<=3)(hv:v.sm):ic (pj g nm v most).1:=by
 refine⟨⟨by show nm.length<=_;omega,hv⟩,Rk nm g.aS _, ?_, ?_⟩
 .show ∀b∈(eA (nS nm g.aS (g.val (most+1)).toNat).2 nm).1,b.sm
  unfold eA;split
  .intro b hb;rw[aC.1 hb];exact⟨by have:=y9 (nS nm g.aS (g.val (most+1)).toNat).2.aS nm;simp only;omega,HH,show([]:av)∈Ly by decide⟩
  .intro b hb;cases hb
 .show(kZ (eA (nS nm g.aS (g.val (most+1)).toNat).2 nm).2 (nS nm g.aS (g.val (most+1)).toNat).1).1∈Cd;unfold kZ;split
  .exact .tail _ (cC.2 ⟨_,aeZ (XB nm g.aS _),rfl⟩)
  .exact .head _
def acR:Vn Xt:=by
 refine⟨⟨by decide+kernel,⟨⟨aT,by simp only[Xt,bZ.sm];decide⟩,(fun n h=>ca),(fun n h=>ca),.head _⟩,fun h hh=>by cases hh⟩,aT,aT⟩
def Rf (ks:List Int):Xu (y4 ks)/\(y4 ks).ps.length<=1/\(y4 ks).hs.length<=1:=by
 refine⟨⟨adw _ 3 aT (tA 0), ?_⟩, ?_, ?_⟩
 .show ∀h∈(Cx (j0 (jA ks).2).2).1,ki h.range
  unfold Cx;split
  .intro h hh;rw[aC.1 hh];exact HH
  .intro h hh;cases hh
 .show(j0 (jA ks).2).1.length<=1;unfold j0;split<;>simp
 .show(Cx (j0 (jA ks).2).2).1.length<=1;unfold Cx;split<;>simp
def ZW (ks:List Int):wG [fD ks]:=by
 refine⟨_,rfl, ?_⟩;unfold fD;split
 .rename_i h;obtain⟨h1,h2,h3⟩:=Rf ks;exact⟨⟨h,h1⟩,h2,h3⟩
 .exact acR
def EZ (n:Nat)(k:Int)(i:Nat):Int:=((i:Int)*(1+k%3)+k)%(n:Int)
def kq (n:Nat)(k:Int):Nat->List Int
 |0=>[]
 |i+1=>if Tq (kq n k i) (EZ n k i)=true then kq n k i else kq n k i++[EZ n k i]
def xO (n:Nat)(k:Int):Nat:=min n (k%5).toNat
def jr (us:List c9)(l:List Int)(u:Nat):Int:=bY (atI l (u:Int)) 24
def EY (us:List c9)(l:List Int)(u:Nat):List Int:=kq us[u]!.cands.length (jr us l u) (xO us[u]!.cands.length (jr us l u))
def jd (us:List c9)(l:List Int):List (List Int):=if l.length=0 then []else(List.range us.length).map (EY us l)
def RC {n:Nat}(hn:0<n)(k:Int):∀i,(∀p∈kq n k i,0<=p/\p<(n:Int))/\(kq n k i).length<=i
 |0=>⟨fun p hp=>(by cases hp),aP _⟩
 |i+1=>by
  obtain⟨h1,h2⟩:=RC hn k i;rw[kq];split
  .exact⟨h1,ae⟩
  .refine⟨fun p hp=>?_,Kk⟩;rcases List.mem_append.1 hp with hp|hp
   .exact h1 p hp
   .obtain rfl:=aC.1 hp;exact⟨Int.emod_nonneg _ ae,Int.emod_lt_of_pos _ ae⟩
def adb (us:List c9)(l:List Int)(u:Nat):(EY us l u).length<=4/\∀p∈EY us l u,0<=p/\p<(us[u]!.cands.length:Int):=by
 unfold EY;have hc:xO us[u]!.cands.length (jr us l u)<=4:=by unfold xO;omega
 rcases Nat.eq_zero_or_pos us[u]!.cands.length with h|h
 .rw[h,show xO 0 (jr us l u)=0 by unfold xO;omega];exact⟨by simp[kq],fun p hp=>by cases hp⟩
 .obtain⟨h1,h2⟩:=RC h (jr us l u) (xO us[u]!.cands.length (jr us l u));exact⟨ae,h1⟩
def tu {us:List c9}(l:List Int):yH (dy us) (jd us l):=by
 intro u hu;have hn:(dy us).needs.length=us.length:=by simp[dy,eu]
 have hul:u<us.length:=ae;have e1:(dy us).needs[u]!.length=us[u]!.cands.length:=by unfold dy eu;dsimp only;rw[List.take_length,gI hul];simp[eG]
 rw[e1];have key:cR (jd us l) ((u:Nat):Int)=[]\/cR (jd us l) ((u:Nat):Int)=EY us l u:=by
  unfold cR jd;by_cases h0:l.length=0
  .rw[ak h0,ai aG];exact .inl rfl
  .rw[ai h0,ak dN,Int.toNat_natCast];exact .inr (by simp[hul])
 rcases key with h|h<;>rw[h]
 .exact⟨aG,fun p hp=>by cases hp⟩
 .obtain⟨h1,h2⟩:=adb us l u;exact⟨ae,h2⟩
def vR (us:List c9):Nat->Nat
 |0=>1
 |i+1=>if us[i]!.feat=[]then vR us i*(us[i]!.cands.length+1)else vR us i
def LV (us:List c9):Nat->Nat->Nat->Nat
 |0,_,n=>n
 |r+1,i,n=>if n<1000000 then LV us r (i+1) (if us[i]!.feat=[]then n*(us[i]!.cands.length+1)else n)else n
def Hy (us:List c9):Nat:=LV us us.length 0 1
def tidV (w:b6)(c:List Int)(is:List Bool):List Int:=(List.range is.length).map fun i=>if is[i]! =true then c[i]! else-1
def C1 (w:b6)(c:List Int)(is:List Bool)(l:List Want):List Bool:=l.foldl (fun is x=>is.set x.u.toNat (is[x.u.toNat]! ||qH w c x)) is
def A7 (w:b6)(c:List Int)(is:List Bool)(l:List oz):List Bool:=l.foldl (C1 w c) is
def TL (w:b6)(c:List Int)(i:Nat)(is:List Bool):List Bool:=if is[i]! =true then A7 w c is (aY w c i).needs else is
def oD (w:b6)(c:List Int):Nat->List Bool->List Bool
 |0,is=>is
 |i+1,is=>TL w c i (oD w c i is)
def sz (w:b6)(c:List Int):Nat->List Bool->List Bool
 |0,is=>is
 |n+1,is=>oD w c c.length (sz w c n is)
def nu (c:List Int):List Bool:=(List.replicate c.length false).set 0 (decide (0<=c[0]!))
def gX (w:b6)(c:List Int):List Bool:=if ik w c=false then []else sz w c c.length (nu c)
def Gj (w:b6)(c:List Int):List Int:=tidV w c (gX w c)
def cZ (m:gV)(shop:List bN)(e:Env)(os:List Int):b6×List Int×Bool:=
 if(gY [m] shop e []).2≠0\/5000<Hy (gY [m] shop e []).1.us then((gY [m] shop e []).1,[],false)
 else match lM (gY [m] shop e []).1.us (jd (gY [m] shop e []).1.us os)with
  |none=>((gY [m] shop e []).1,[],false)
  |some c=>((gY [m] shop e []).1,Gj (gY [m] shop e []).1 c,true)
def acJ {l:List Key}{k:Key}(i:Nat)(h:i<=l.length):i<=EN l k i/\EN l k i<=l.length:=by
 unfold EN;have:=(List.takeWhile_sublist (l:=l.drop i) (p:=fun x=>eX x k)).length_le;rw[j5]at this;omega
def Dg (l:List Key)(k:Key):(sD l k=l/\k∈l)\/((sD l k).length=l.length+1/\∀x,x∈sD l k↔x∈l\/x=k):=by
 have hk:=(acJ (l:=l) (k:=k) 0 (Nat.zero_le _)).2;unfold sD;split
 .rename_i h;exact .inl ⟨rfl,h.2▸aq h.1⟩
 .refine .inr ⟨dN,fun x=>?_⟩;have:x∈l↔x∈l.take (EN l k 0)\/x∈l.drop (EN l k 0):=by
   rw[<-List.mem_append,List.take_append_drop]
  simp only[List.mem_append,aC];rw[this];constructor
  .rintro((h|h)|h)<;>simp[h]
  .rintro((h|h)|h)<;>simp[h]
def HI (s:oY)(a:jv):(∀x,x∈(me s a).all↔x∈s.all\/x=a.k)/\(∀x,x∈s.todo->x∈(me s a).todo)/\(∀x∈(me s a).todo,x∈s.todo\/x=a.k)/\(∀x∈(me s a).all,x∈s.all\/x∈(me s a).todo)/\s.all.length<=(me s a).all.length/\(me s a).all.length+s.todo.length=s.all.length+(me s a).todo.length:=by
 unfold me;rcases Dg s.all a.k with⟨h1,h2⟩|⟨h1,h2⟩
 .rw[ai (by rw[h1];omega)];exact⟨fun x=>⟨.inl,fun h=>h.elim id fun e=>e▸h2⟩,fun _ h=>h,fun _ h=>.inl h,fun _ h=>.inl h,aP _,rfl⟩
 .rw[ak ae];refine⟨h2,fun x h=>List.mem_append_left _ h,fun x h=>ra,fun x h=>?_,rh,akS⟩;rcases(h2 x).1 h with h|rfl
  .exact .inl h
  .exact .inr aG
structure uM (s t:oY):Prop where
 all:∀x∈s.all,x∈t.all
 todo:∀x∈s.todo,x∈t.todo
 back:∀x∈t.all,x∈s.all\/x∈t.todo
 inn:∀x∈t.todo,x∈s.todo\/x∈t.all
 len:t.all.length+s.todo.length=s.all.length+t.todo.length
 grow:s.all.length<=t.all.length
def uM.MC (s:oY):uM s s:=⟨fun _ h=>h,fun _ h=>h,fun _ h=>.inl h,fun _ h=>.inl h,rfl,aP _⟩
def uM.tr {a b c:oY}(h1:uM a b)(h2:uM b c):uM a c:=by
 refine⟨fun x h=>h2.all x (h1.all x h),fun x h=>h2.todo x (h1.todo x h),fun x h=>?_,fun x h=>?_,by have:=h1.len;have:=h2.len;omega,eJ h1.grow h2.grow⟩
 .rcases h2.back x h with h|h
  .exact(h1.back x h).imp id (h2.todo x)
  .exact .inr h
 .rcases h2.inn x h with h|h
  .exact(h1.inn x h).imp id (h2.all x)
  .exact .inr h
def ads (s:oY)(a:jv):uM s (me s a)/\a.k∈(me s a).all:=by
 obtain⟨h1,h2,h3,h4,h5,h6⟩:=HI s a;exact⟨⟨fun x h=>(h1 x).2 (.inl h),h2,h4,fun x h=>(h3 x h).imp id fun e=>(h1 x).2 (.inr e),h6,h5⟩,(h1 _).2 (.inr rfl)⟩
def RP:∀(row:fK) (s:oY),uM s (row.foldl me s)/\∀a∈row,a.k∈(row.foldl me s).all
 |[],s=>⟨.MC s,fun a h=>ca⟩
 |b::r,s=>by
  obtain⟨h1,h2⟩:=ads s b;obtain⟨h3,h4⟩:=RP r (me s b);refine⟨h1.tr h3,fun a ha=>?_⟩;rcases b9.1 ha with rfl|ha
  .exact h3.all _ h2
  .exact h4 a ha
def RR:∀(l:List fK) (s:oY),uM s (OY s l)/\∀row∈l,∀a∈row,a.k∈(OY s l).all
 |[],s=>⟨.MC s,fun a h=>ca⟩
 |b::r,s=>by
  obtain⟨h1,h2⟩:=RP b s;obtain⟨h3,h4⟩:=RR r (b.foldl me s);refine⟨h1.tr h3,fun row hr=>?_⟩;rcases b9.1 hr with rfl|hr
  .exact fun a ha=>h3.all _ (h2 a ha)
  .exact h4 row hr
structure SW (y:cD)(s:oY):Prop where
 zero:fZ∈s.all
 inn:∀x∈s.todo,x∈s.all
 done:∀x∈s.all,x∉s.todo->∀row∈df y x,∀a∈row,a.k∈s.all
 len:s.todo.length<=s.all.length/\s.all.length<=48
def YQ (y:cD):SW y oE:=⟨by simp[oE],fun x h=>h,fun x h h2=>absurd h h2,by simp[oE]⟩
def RS (y:cD){s:oY}(h:0<s.todo.length):uM ⟨s.all,s.todo.drop 1⟩ (Bg y s)/\∀row∈df y s.todo[0]!,∀a∈row,a.k∈(Bg y s).all:=RR _ _
def YU {y:cD}{s:oY}(hI:SW y s)(h:0<s.todo.length)(h48:(Bg y s).all.length<=48):SW y (Bg y s):=by
 obtain⟨h1,h2⟩:=RS y h;have hd:∀x∈s.todo.drop 1,x∈s.todo:=fun x hx=>List.mem_of_mem_drop hx
 have hc:s.todo=s.todo[0]! ::s.todo.drop 1:=by
  cases ht:s.todo with
  |nil=>rw[ht]at h;cases h
  |cons a r=>simp
 refine⟨h1.all _ hI.zero,fun x hx=>?_,fun x hx hn=>?_, ?_⟩
 .rcases h1.inn x hx with h3|h3
  .exact h1.all _ (hI.inn _ (hd x h3))
  .exact h3
 .rcases h1.back x hx with h3|h3
  .by_cases h4:x∈s.todo
   .rw[hc]at h4;rcases b9.1 h4 with h5|h5
    .rw[h5];exact h2
    .exact absurd (h1.todo _ h5) hn
   .exact fun row hr a ha=>h1.all _ (hI.done x h3 h4 row hr a ha)
  .exact absurd h3 hn
 .have:=h1.len;have:=hI.len;simp only[j5]at*
  omega
def RQ {y:cD}:∀(n:Nat){s:oY}{all:List Key},SW y s->Be y n s=some all->SW y ⟨all,[]⟩
 |0,s,all,_,h=>by cases h
 |n+1,s,all,hI,h=>by
  rw[Be]at h;split at h
  .rename_i h0;obtain rfl:=aW h;have:s.todo=[]:=Z5.1 h0;exact⟨hI.zero,fun x h=>ca,fun x hx _=>hI.done x hx (by rw[this];simp),⟨Nat.zero_le _,hI.len.2⟩⟩
  .split at h
   .cases h
   .rename_i h0 h1;exact RQ n (YU hI ae ae) h
def Ds {y:cD}{all:List Key}(h:mG y=some all):fZ∈all/\all.length<=48/\∀k∈all,∀row∈df y k,∀a∈row,a.k∈all:=by
 have:=RQ 49 (YQ y) h;exact⟨this.zero,this.len.2,fun k hk=>this.done k hk aG⟩
def FM {all:List Key}{k:Key}(h:k∈all):0<=eP all k/\eP all k<all.length:=by
 unfold eP;rcases gJ (f:=fun x=>decide (x=k)) (l:=all) (k:=0)with⟨_,h2⟩|⟨j,h1,h2,_⟩
 .obtain⟨i,hi,e⟩:=fU h;have:=h2 i hi;rw[e]at this;simp at this
 .rw[h1];omega
def OP (all:List Key)(k:Key):eP all k=-1\/∃j:Nat,eP all k=(j:Int)/\j<all.length:=by
 unfold eP;rcases gJ (f:=fun x=>decide (x=k)) (l:=all) (k:=0)with⟨h,_⟩|⟨j,h1,h2,_⟩
 .exact .inl h
 .exact .inr ⟨j,by rw[h1];omega,h2⟩
def BY (r:Rec):Prop:=Fv r/\ic r
def qT (s:av):eR s∈gT:=by
 unfold eR;refine aq ?_;rcases gJ (f:=fun t=>decide (t=s)) (l:=j2) (k:=0)with⟨h,_⟩|⟨j,h,h2,_⟩
 .rw[h];decide
 .rw[h];have:j2.length=8:=rfl;have:gT.length=8:=rfl;omega
def MP:∀s∈gT,wc s=true:=by decide+kernel
def F4:∀s∈gT,(s.rel.length<=2/\s.pr.length<=2)/\(∀x∈s.rel,(x.f.v.pre.length<=3/\x.f.v.build.length<=3)/\x.t.v.pre.length<=3/\x.t.v.build.length<=3)/\∀x∈s.pr,(x.f.v.pre.length<=3/\x.f.v.build.length<=3)/\x.t.v.pre.length<=3/\x.t.v.build.length<=3:=by decide+kernel
def adF (s:av):wc (eR s)=true:=MP _ (qT s)
def adG (s:av):(eR s).sm:=by
 obtain⟨_,h1,h2⟩:=F4 _ (qT s);constructor
 .intro x hx;obtain⟨a,b⟩:=h1 x hx;exact⟨⟨ae,ae⟩,ae,ae⟩
 .intro x hx;obtain⟨a,b⟩:=h2 x hx;exact⟨⟨ae,ae⟩,ae,ae⟩
def ot (x:de):0<(eS x).length/\(eS x).length<=x.feats.length+1:=by
 unfold eS;rw[ct,bj];split
 .split
  .rename_i h;rw[h];simp
  .rename_i h;have:=List.length_pos_iff.2 h;simp only[b7];omega
 .simp only[List.length_singleton];omega
def wF (n:br):Prop:=(0<n.any.length/\n.any.length<=3)/\∀w∈n.any,w.feats.length<=6
def tx {n:br}(h:wF n):(0<(iG n).length/\(iG n).length<=7)/\∀r∈iG n,0<r.length/\r.length<=3:=by
 obtain⟨⟨h0,h1⟩,h2⟩:=h;unfold iG;split
 .have h3:=ot n.any[0]!;have h4:=h2 _ (aq h0);rw[bj];refine⟨ae,fun r hr=>?_⟩;obtain⟨k,_,rfl⟩:=cC.1 hr;simp
 .refine⟨aG,fun r hr=>?_⟩;rw[aC.1 hr,bj];exact⟨h0,h1⟩
def ir {α β:Type}{f:α->List β}{B:Nat}:∀{l:List α},(∀x∈l,(f x).length<=B)->(l.flatMap f).length<=B*l.length
 |[],_=>aG
 |a::r,h=>by
  have h1:=h a (.head _);have h2:=ir (f:=f) (B:=B) (l:=r) fun x hx=>h x (.tail _ hx)
  rw[List.flatMap_cons,ct,bE,Nat.mul_succ];omega
def gE {r:Rec}(h:BY r):r.needs.length<=8/\∀n∈r.needs,wF n:=by
 have hf:=tn h;refine⟨hf.ns,fun n hn=>?_⟩;obtain⟨⟨_,⟨h1,h2⟩,hp⟩,_⟩:=h;have h0:(lA r).1=0:=by grind [ef]
 obtain⟨i,hi,rfl⟩:=fU hn;have h3:=qA h0 i hi;have h4:=(hf.n _ hn).1;refine⟨⟨?_,h4.1⟩,fun w hw=>(h4.2 w hw).2.1⟩;unfold jz at h3;split at h3
 .cases h3
 .omega
def LK {e:Env}{o:av}{n:br}(h:wF n):(Bb e o n).length<=7/\∀r∈Bb e o n,0<r.length/\r.length<=3:=by
 have:=tx h;unfold Bb;split
 .exact⟨this.1.2,this.2⟩
 .exact⟨aG,fun r hr=>by cases hr⟩
def xM {ns:List br}{e:Env}{o:av}(h:∀n∈ns,wF n):(qL ns e o).length<=7*ns.length/\∀r∈qL ns e o,0<r.length/\r.length<=3:=by
 refine⟨ir fun n hn=>(LK (h n hn)).1,fun r hr=>?_⟩;obtain⟨n,hn,hr⟩:=List.mem_flatMap.1 hr;exact(LK (h n hn)).2 r hr
def FO {e:Env}{nm ft:av}{n:br}(h:wF n):(ru e nm ft n).length<=8/\∀r∈ru e nm ft n,0<r.length/\r.length<=3:=by
 have:=tx h;unfold ru;split
 .rw[ct,List.length_singleton];split
  .exact⟨aG,fun r hr=>by rw[qZ]at hr;rw[aC.1 hr];simp⟩
  .refine⟨ae,fun r hr=>?_⟩;rcases List.mem_append.1 hr with hr|hr
   .exact this.2 r hr
   .rw[aC.1 hr];simp
 .exact⟨aG,fun r hr=>by cases hr⟩
def zd {ns:List br}{e:Env}{nm ft:av}(h:∀n∈ns,wF n):(iT ns e nm ft).length<=8*ns.length/\∀r∈iT ns e nm ft,0<r.length/\r.length<=3:=by
 refine⟨ir fun n hn=>(FO (h n hn)).1,fun r hr=>?_⟩;obtain⟨n,hn,hr⟩:=List.mem_flatMap.1 hr;exact(FO (h n hn)).2 r hr
def tp {r:Rec}{e:Env}{s:av}(h:BY r):(lZ r e s).length<=64/\∀w∈lZ r e s,0<w.length/\w.length<=3:=by
 obtain⟨h1,h2⟩:=gE h;unfold lZ;split
 .exact⟨aG,fun w hw=>by rw[aC.1 hw];simp⟩
 .split
  .have:=xM (e:=e) (o:=(bL s).2.1) h2;exact⟨ae,this.2⟩
  .have:=zd (e:=e) (nm:=(bL s).2.1) (ft:=(bL s).2.2) h2;exact⟨ae,this.2⟩
def xG {r:Rec}(h:BY r)(ft:av):(uT r.feats ft).length<=6/\∀s∈uT r.feats ft,rr s:=by
 have hf:=tn h;unfold uT;split
 .exact⟨aG,fun s hs=>by cases hs⟩
 .rename_i h0;have hj:(findF r.feats ft 0).toNat<r.feats.length:=by
   unfold findF at h0⊢;rw[cT]at h0⊢;cases h1:r.feats.findIdx? (fun x=>decide (x.name=ft))with
   |none=>rw[h1]at h0;exact absurd aT h0
   |some k=>
    have:=(List.findIdx?_eq_some_iff_getElem.1 h1).1;simp only[b8,Int.toNat_natCast];exact this
  have hm:=aq (l:=r.feats) hj;exact⟨(hf.f _ hm).2,fun s hs=>jm.it h.2.2.2.2 _ hm _ hs⟩
def lB {r:Rec}{e:Env}{ft:av}(h:BY r):(dc r e ft).length<=385/\∀w∈dc r e ft,0<w.length/\w.length<=3:=by
 obtain⟨h1,h2⟩:=gE h;unfold dc;split
 .have:=xM (e:=e) (o:=[]) h2;exact⟨ae,this.2⟩
 .have h3:=ir (f:=lZ r e) (B:=64) (l:=uT r.feats ft) fun s _=>(tp h).1
  have h4:=(xG h ft).1;refine⟨Kk,fun w hw=>?_⟩;rcases List.mem_append.1 hw with hw|hw
  .rw[aC.1 hw];simp
  .obtain⟨s,_,hs⟩:=List.mem_flatMap.1 hw;exact(tp h).2 w hs
def H7 {shop:List bN}(h:fJ shop=true){i:Nat}(hi:i<shop.length):ie shop[i]! =true:=by
 simp only[fJ,aN,cb,DW]at h;exact(h.2 i (Nat.zero_le _) hi).1
def R9 {s:bN}(h:ie s=true):s.es.length<=64:=by
 simp only[ie,aN,bn]at h;exact h.1.2
def adL {s:bN}(h:ie s=true)(hs:∀x∈s.es,ic x.r):∀x∈s.es,BY x.r:=by
 intro x hx;obtain⟨i,hi,rfl⟩:=fU hx;simp only[ie,aN,cb,rZ,bn]at h;have h1:=(h.2 i (Nat.zero_le _) hi).1.1;refine⟨lU ?_,hs _ hx⟩;unfold fg at h1;split at h1
 .rename_i h2;exact absurd h1 h2
 .rename_i h2;exact Classical.not_not.1 h2
def Zt (l:List bN)(nm:av):mg l nm=-1\/∃j:Nat,mg l nm=(j:Int)/\j<l.length:=by
 unfold mg;rcases gJ (f:=Fx nm) (l:=l) (k:=0)with⟨h,_⟩|⟨j,h1,h2,_⟩
 .exact .inl h
 .exact .inr ⟨j,by rw[h1];omega,h2⟩
def WN (l:List bN)(nm:av):fY (Cv nm) l 0=-1\/∃j:Nat,fY (Cv nm) l 0=(j:Int)/\j<l.length:=by
 rcases gJ (f:=Cv nm) (l:=l) (k:=0)with⟨h,_⟩|⟨j,h1,h2,_⟩
 .exact .inl h
 .exact .inr ⟨j,by rw[h1];omega,h2⟩
def qM (l:List gV)(nm:av):lF l nm=-1\/∃j:Nat,lF l nm=(j:Int)/\j<l.length:=by
 unfold lF;rcases gJ (f:=isM nm) (l:=l) (k:=0)with⟨h,_⟩|⟨j,h1,h2,_⟩
 .exact .inl h
 .exact .inr ⟨j,by rw[h1];omega,h2⟩
def pL {shop:List bN}{pins:List iH}{nm:av}(h:(gp shop pins nm).2=0):fJ shop=true/\∃j:Nat,(gp shop pins nm).1=(j:Int)/\j<shop.length:=by
 unfold gp at*
 split at h
 .cases h
 .rename_i h1;refine⟨by simpa using h1, ?_⟩;rw[ai h1];split at h
  .cases h
  .rename_i h2;rw[ai h2];split at h
   .rename_i h3;rw[ak h3];split at h
    .cases h
    .rename_i h4;rw[ai h4];exact(Zt _ _).resolve_left ae
   .rename_i h3;rw[ai h3];split at h
    .cases h
    .rename_i h4;rw[ai h4];exact(WN _ _).resolve_left ae
def W7 (es:List kr)(l:List Int)(i:Nat):(G7 es l i).length=l.length+1:=by
 unfold G7;simp only[ct,eg,j5,bE,b7];omega
def La {es:List kr}{l:List Int}{i:Nat}{x:Int}(h:x∈G7 es l i):x∈l\/x=(i:Int):=by
 unfold G7 at h;simp only[List.mem_append,aC]at h;rcases h with(h|h)|h
 .exact .inl (zG h)
 .exact .inr h
 .exact .inl (List.mem_of_mem_drop h)
def xr (es:List kr)(nm:av):∀i,(eB es nm i).length<=i/\∀x∈eB es nm i,0<=x/\x<(i:Int)
 |0=>⟨aP _,fun x h=>ca⟩
 |i+1=>by
  obtain⟨h1,h2⟩:=xr es nm i;rw[eB];split
  .refine⟨by rw[W7];omega,fun x hx=>?_⟩;rcases La hx with h|h
   .have:=h2 x h;omega
   .omega
  .exact⟨ae,fun x hx=>by have:=h2 x hx;omega⟩
def su (s:bN)(nm:av):(ke s nm).length<=64/\∀x∈ke s nm,0<=x/\x<(s.es.length:Int):=by
 unfold ke;cases h:ie s with
 |false=>exact⟨aG,fun x hx=>by simp at hx⟩
 |true=>
  rw[ai aG];have h1:=R9 h;obtain⟨h2,h3⟩:=xr s.es nm s.es.length;exact⟨ae,h3⟩
def pT {y:cD}{nm:av}{a:Nat}:∀(l:List Int),(iS y nm a l).length<=l.length/\∀x∈iS y nm a l,(∃i∈l,x.r=y.shop[a]!.es[i.toNat]!.r)/\x.sh=(a:Int)
 |[]=>⟨aP _,fun x h=>ca⟩
 |i::r=>by
  obtain⟨h1,h2⟩:=pT (y:=y) (nm:=nm) (a:=a) r;rw[iS];refine⟨?_,fun x hx=>?_⟩
  .rw[ct,bE];split<;>simp<;>omega
  .rcases List.mem_append.1 hx with hx|hx
   .split at hx
    .rw[aC.1 hx];exact⟨⟨i,.head _,rfl⟩,rfl⟩
    .cases hx
   .obtain⟨⟨j,h3,h4⟩,h5⟩:=h2 x hx;exact⟨⟨j,.tail _ h3,h4⟩,h5⟩
def pC (y:cD):Prop:=(wG y.l/\iP y.shop)/\y.keeps.length<=1000/\(∀k∈y.keeps,k.v.sm)/\y.pins.length<=1000
def BE {m:gV}(h:Vn m):BY m.r:=by
 obtain⟨⟨h1,h2⟩,_⟩:=h;refine⟨lU ?_,h2.1⟩;unfold kC at h1;split at h1
 .rename_i h3;exact absurd h1 h3
 .rename_i h3;exact Classical.not_not.1 h3
def Rd {y:cD}(h:pC y)(nm:av):(dK y nm).length<=64/\∀x∈dK y nm,BY x.r/\(x.sh=-1\/∃j:Nat,x.sh=(j:Int)/\j<y.shop.length):=by
 obtain⟨⟨⟨m,hm,hM⟩,hs⟩,_⟩:=h;unfold dK;split
 .rename_i h0;refine⟨aG,fun x hx=>?_⟩;rw[aC.1 hx];refine⟨?_,.inl rfl⟩;obtain⟨j,hj,hjl⟩:=(qM y.l nm).resolve_left ae;rw[hj,Int.toNat_natCast];have:=aq hjl;rw[hm]at this⊢;rw[aC.1 this];exact BE hM
 .split
  .exact⟨aG,fun x hx=>by cases hx⟩
  .rename_i h1;have h1:(cM y.shop y.pins nm).2.2=0:=Classical.not_not.1 h1;have h2:(gp y.shop y.pins nm).2=0:=by
    unfold cM at h1;split at h1
    .rename_i h3;exact absurd h1 h3
    .rename_i h3;exact Classical.not_not.1 h3
   obtain⟨hB,j,hj,hjl⟩:=pL h2;have e1:cM y.shop y.pins nm=((j:Int),ke y.shop[j]! nm,0):=by
    unfold cM;rw[ai (fun h=>h h2),hj,Int.toNat_natCast]
   rw[e1];simp only[Int.toNat_natCast];obtain⟨h3,h4⟩:=su y.shop[j]! nm;obtain⟨h5,h6⟩:=pT (y:=y) (nm:=nm) (a:=j) (ke y.shop[j]! nm);refine⟨ae,fun x hx=>?_⟩;obtain⟨⟨i,hi,e⟩,hsh⟩:=h6 x hx;have:=h4 i hi;refine⟨?_,.inr ⟨j,hsh,hjl⟩⟩;rw[e];exact adL (H7 hB hjl) (hs _ (aq hjl)) _ (aq ae)
def xI {y:cD}(h:pC y)(k:Key):(eH y k).length<=64/\∀x∈eH y k,BY x.r/\(x.sh=-1\/∃j:Nat,x.sh=(j:Int)/\j<y.shop.length):=by
 obtain⟨h1,h2⟩:=Rd h k.n;exact⟨eJ (List.length_filter_le _ _) h1,fun x hx=>h2 x (List.mem_filter.1 hx).1⟩
def H3 {y:cD}(h:pC y):(eC y.l).length=1/\∀r∈eC y.l,r.length=1:=by
 obtain⟨⟨⟨m,hm,hM⟩,hs⟩,_⟩:=h;rw[hm];exact⟨rfl,fun r hr=>by rw[aC.1 hr];rfl⟩
def Zh {y:cD}(h:pC y)(k:Key):(df y k).length<=25000/\∀r∈df y k,0<r.length/\r.length<=3:=by
 unfold df;split
 .obtain⟨h1,h2⟩:=H3 h;exact⟨ae,fun r hr=>by have:=h2 r hr;omega⟩
 .obtain⟨h1,h2⟩:=xI h k;have h3:=ir (f:=fun x=>dc x.r y.e k.f) (B:=385) (l:=eH y k) fun x hx=>(lB (h2 x hx).1).1
  refine⟨ae,fun r hr=>?_⟩;obtain⟨x,hx,hr⟩:=List.mem_flatMap.1 hr;exact(lB (h2 x hx).1).2 r hr
def BZ (v:bZ)(l:List fK):Prop:=∀r∈l,∀a∈r,a.s∈gT\/a.s=er v
def MN {v:bZ}{a b:List fK}(h1:BZ v a)(h2:BZ v b):BZ v (a++b):=fun r hr=>(List.mem_append.1 hr).elim (h1 r) (h2 r)
def DR (v:bZ):BZ v []:=fun r hr=>by cases hr
def zt {α:Type}{v:bZ}{f:α->List fK}{l:List α}(h:∀x∈l,BZ v (f x)):BZ v (l.flatMap f):=fun r hr=>by
 obtain⟨x,hx,hr⟩:=List.mem_flatMap.1 hr;exact h x hx r hr
def DS {v:bZ}{a:jv}(h:a.s∈gT\/a.s=er v):BZ v [[a]]:=fun r hr b hb=>by
 rw[aC.1 hr]at hb;rw[aC.1 hb];exact h
def F1 (v:bZ)(n:br):BZ v (iG n):=by
 unfold iG;split
 .intro r hr a ha;obtain⟨k,_,rfl⟩:=cC.1 hr;rw[aC.1 ha];exact .inl (qT _)
 .intro r hr a ha;rw[aC.1 hr]at ha;obtain⟨w,_,rfl⟩:=cC.1 ha;exact .inl (qT _)
def LL (v:bZ)(ns:List br)(e:Env)(o:av):BZ v (qL ns e o):=zt fun n _=>by
 unfold Bb;split
 .exact F1 v n
 .exact DR v
def T2 (v:bZ)(ns:List br)(e:Env)(nm ft:av):BZ v (iT ns e nm ft):=zt fun n _=>by
 unfold ru;split
 .refine MN ?_ (DS (.inl (qT _)));split
  .exact DR v
  .exact F1 v n
 .exact DR v
def C3 (r:Rec)(e:Env)(ft:av):BZ r.v (dc r e ft):=by
 unfold dc;split
 .exact LL r.v _ _ _
 .refine MN (DS (.inr rfl)) (zt fun s _=>?_);unfold lZ;split
  .exact DS (.inr rfl)
  .split
   .exact LL r.v _ _ _
   .exact T2 r.v _ _ _ _
def F3 {s:cy}{v:bZ}(hv:v.sm)(h:s∈gT\/s=er v):s.sm:=by
 rcases h with h|rfl
 .obtain⟨_,h1,h2⟩:=F4 _ h;constructor
  .intro x hx;obtain⟨a,b⟩:=h1 x hx;exact⟨⟨ae,ae⟩,ae,ae⟩
  .intro x hx;obtain⟨a,b⟩:=h2 x hx;exact⟨⟨ae,ae⟩,ae,ae⟩
 .exact Fp hv
def qc {all:List Key}{l:List fK}{r:oz}(h:r∈dL all l):∃q∈l,r=q.map fun a=>⟨eP all a.k,a.s⟩:=by
 obtain⟨q,hq,rfl⟩:=cC.1 h;exact⟨q,hq,rfl⟩
def CndW (n:Nat)(c:ei):Prop:=(c.sm/\c.needs.length<=24/\c.bars.length<=24)/\(∀r∈c.needs,(0<r.length/\r.length<=3)/\∀w∈r,0<=w.u/\w.u<(n:Int))/\∀w∈c.bars,0<=w.u/\w.u<(n:Int)
def Ff {all:List Key}{r:Rec}{e:Env}{w:Want}(h:w∈wN all r e):(0<=w.u/\w.u<(all.length:Int))/\w.s∈gT:=by
 obtain⟨b,_,hb⟩:=List.mem_flatMap.1 h;unfold qq at hb;split at hb
 .rename_i hc;rw[aC.1 hb];refine⟨⟨hc.1, ?_⟩,qT _⟩;obtain⟨j,hj,hjl⟩:=(OP all ⟨b.name,[]⟩).resolve_left ae;show eP all ⟨b.name,[]⟩<_;omega
 .cases hb
def QK {y:cD}{all:List Key}{k:Key}{x:uA}(hx:BY x.r)(hcl:∀row∈dc x.r y.e k.f,∀a∈row,a.k∈all)(hw:ou (dX y all k x)=false):CndW all.length (dX y all k x):=by
 have h1:=C3 x.r y.e k.f;have h2:=(lB (e:=y.e) (ft:=k.f) hx).2;have hv:x.r.v.sm:=hx.2.1.2;simp only[ou,gC,cK]at hw;refine⟨⟨⟨hv, ?_, ?_⟩,ae,ae⟩, ?_, ?_⟩
 .intro r hr w hwr;obtain⟨q,hq,rfl⟩:=qc hr;obtain⟨a,ha,rfl⟩:=cC.1 hwr;exact F3 hv (h1 q hq a ha)
 .intro w hwb;have hwb:w∈(if k.f=[]then wN all x.r y.e else []):=hwb;split at hwb
  .exact F3 hv (.inl (Ff hwb).2)
  .cases hwb
 .intro r hr;obtain⟨q,hq,rfl⟩:=qc hr;rw[bj];refine⟨h2 q hq,fun w hwr=>?_⟩;obtain⟨a,ha,rfl⟩:=cC.1 hwr;exact FM (hcl q hq a ha)
 .intro w hwb;have hwb:w∈(if k.f=[]then wN all x.r y.e else []):=hwb;split at hwb
  .exact(Ff hwb).1
  .cases hwb
def ajl (y:cD)(k:Key):(eH y k).length<=(dK y k.n).length:=List.length_filter_le _ _
def yJ {y:cD}{all:List Key}{k:Key}(hy:pC y)(hcl:∀row∈df y k,∀a∈row,a.k∈all)(h:(fE y all k).2=true):(fE y all k).1.length<=16/\∀c∈(fE y all k).1,CndW all.length c:=by
 unfold fE at*
 by_cases hk:k=fZ
 .rw[ak hk];refine⟨aG,fun c hc=>?_⟩;rw[aC.1 hc];obtain⟨h1,h2⟩:=H3 hy;have hrow:df y k=eC y.l:=by unfold df;rw[ak hk]
  rw[hrow]at hcl;obtain⟨⟨⟨m,hm,hM⟩,_⟩,_⟩:=hy;refine⟨⟨⟨Gx, ?_,fun w hw=>by cases hw⟩,by simp[dL,h1],aG⟩, ?_,fun w hw=>by cases hw⟩
  .intro r hr w hw;obtain⟨q,hq,rfl⟩:=qc hr;rw[hm]at hq;rw[aC.1 hq]at hw;obtain⟨a,ha,rfl⟩:=cC.1 hw;rw[aC.1 ha];exact Fp (BE hM).2.1.2
  .intro r hr;obtain⟨q,hq,rfl⟩:=qc hr;have:=h2 q hq;rw[bj];refine⟨ae,fun w hw=>?_⟩;obtain⟨a,ha,rfl⟩:=cC.1 hw;exact FM (hcl q hq a ha)
 .rw[ai hk]at h⊢;have hrow:df y k=(eH y k).flatMap fun x=>dc x.r y.e k.f:=by unfold df;rw[ai hk]
  rw[hrow]at hcl;split at h
  .cases h
  .rename_i hw;rw[ai hw];have hle:(dK y k.n).length<=16:=by simpa using h
   have:=ajl y k;refine⟨j6,fun c hc=>?_⟩;have hcw:ou c=false:=by
    cases hq:ou c with
    |false=>rfl
    |true=>exact absurd (List.any_eq_true.2 ⟨c,hc,hq⟩) hw
   obtain⟨x,hx,rfl⟩:=cC.1 hc;exact QK ((xI hy k).2 x hx).1 (fun row hr a ha=>hcl row (List.mem_flatMap.2 ⟨x,hx,hr⟩) a ha) hcw
def Sm {y:cD}{all:List Key}:∀n,n<=all.length->(nD y all n).2=true->(nD y all n).1=(all.take n).map (sQ y all)/\∀i,i<n->(fE y all all[i]!).2=true
 |0,_,_=>⟨rfl,fun i h=>absurd h (Nat.not_lt_zero i)⟩
 |n+1,hn,h=>by
  rw[nD]at h⊢;cases h0:(nD y all n).2 with
  |false=>rw[h0,ai aG]at h;rw[h0]at h;cases h
  |true=>
   rw[h0,ak rfl]at h;rw[ak rfl];obtain⟨h1,h2⟩:=Sm n ae h0;have e:all.take (n+1)=all.take n++[all[n]!]:=by
    rw[List.take_add_one,List.getElem?_eq_getElem ae];simp[show n<all.length by omega]
   refine⟨by rw[h1,e,List.map_append];rfl,fun i hi=>?_⟩;rcases eh i n with h3|h3
   .exact h2 i h3
   .obtain rfl:i=n:=ae;exact h
structure Ks (w:b6):Prop where
 len:0<w.us.length/\w.us.length<=48
 u:∀u∈w.us,u.cands.length<=16/\∀c∈u.cands,CndW w.us.length c
def Eg {y:cD}(hy:pC y)(h:(fO y).2=true):∃all,mG y=some all/\(fO y).1.us=all.map (sQ y all)/\(∀i,i<all.length->(fE y all all[i]!).2=true)/\Ks (fO y).1:=by
 unfold fO at*
 cases hr:mG y with
 |none=>rw[hr]at h;cases h
 |some all=>
  rw[hr]at h;obtain⟨h1,h2⟩:=Sm all.length (aP _) h;rw[List.take_length]at h1;obtain⟨r1,r2,r3⟩:=Ds hr;refine⟨all,rfl,h1,h2, ?_⟩;have hl:(nD y all all.length).1.length=all.length:=by rw[h1,bj]
  refine⟨by show 0<(nD y all all.length).1.length/\(nD y all all.length).1.length<=48;rw[hl];exact⟨List.length_pos_of_mem r1,r2⟩, ?_⟩;show ∀u∈(nD y all all.length).1,u.cands.length<=16/\∀c∈u.cands,CndW (nD y all all.length).1.length c
  intro u hu;rw[h1]at hu;obtain⟨k,hk,rfl⟩:=cC.1 hu;rw[hl];obtain⟨i,hi,rfl⟩:=fU hk;exact yJ hy (r3 _ hk) (h2 i hi)
theorem Ks.sm {w:b6}(h:Ks w):w.sm:=fun u hu=>⟨(h.u u hu).1,fun c hc=>((h.u u hu).2 c hc).1.1⟩
def Ks.few {w:b6}(h:Ks w):Few w.us:=fun u hu c hc=>by
 obtain⟨⟨_,h1,h2⟩,h3,_⟩:=(h.u u hu).2 c hc;exact⟨ae,ae,fun r hr=>by have:=(h3 r hr).1;omega⟩
def Ks.msk {w:b6}(h:Ks w):wE (dy w.us):=by
 obtain⟨hpos,hU⟩:=h;have hn:(dy w.us).needs.length=w.us.length:=by simp[dy,eu]
 have hb:(dy w.us).bars.length=w.us.length:=by simp[dy,jx]
 have hfu:(dy w.us).full.length=w.us.length:=by simp[dy,iO]
 refine⟨⟨ae,ae,ae,ae⟩,fun u hu=>?_⟩;rw[hn]at hu⊢;have e1:(dy w.us).needs[u]! =eG w.us w.us[u]!.cands:=by unfold dy eu;dsimp only;rw[List.take_length,gI hu]
 have e2:(dy w.us).bars[u]! =jy w.us w.us[u]!.cands:=by unfold dy jx;dsimp only;rw[List.take_length,gI hu]
 obtain⟨h16,hC⟩:=hU _ (aq hu);rw[e1,e2];refine⟨⟨by simp[eG,jy],by simpa[eG]using h16⟩,fun c hc r hr=>?_,fun r hr x hx=>?_⟩
 .unfold eG at hc;obtain⟨cd,h1,rfl⟩:=cC.1 hc;unfold kR at hr;obtain⟨r0,h2,rfl⟩:=cC.1 hr;obtain⟨h3,h4⟩:=(hC cd h1).2.1 r0 h2;refine⟨by rw[show(ew w.us r0).length=r0.length by simp[ew]];omega,fun x hx=>?_⟩;unfold ew at hx;obtain⟨y,h5,rfl⟩:=cC.1 hx;exact h4 y h5
 .unfold jy at hr;obtain⟨cd,h1,rfl⟩:=cC.1 hr;unfold ew at hx;obtain⟨y,h5,rfl⟩:=cC.1 hx;exact(hC cd h1).2.2 y h5
end Go.Abs
section
namespace Go.Abs
variable {Y:Ctx}(hm:(Y.at 0).bR)
def eL (ns:List av)(nm:av):List av:=if nm∈ns then ns else ns++[nm]
def jo (ns:List av)(k:Key):List av:=if k=fZ then ns else eL ns k.n
def sG (y:cD):Nat->oY->List av->List av
 |0,_,ns=>ns
 |n+1,s,ns=>if s.todo.length=0 then ns else if 48<(Bg y s).all.length then jo ns s.todo[0]! else sG y n (Bg y s) (jo ns s.todo[0]!)
def ZQ (all:List Key)(ns:List av):Nat->List av
 |0=>ns
 |i+1=>jo (ZQ all ns i) all[i]!
def KF (ns:List av)(nm:av):(eL ns nm).length<=ns.length+1:=by
 unfold eL;split
 .omega
 .rw[ct,List.length_singleton];exact aP _
def CM (ns:List av)(k:Key):(jo ns k).length<=ns.length+1:=by
 unfold jo;split
 .omega
 .exact KF _ _
def LY (y:cD):∀(n:Nat) (s:oY) (ns:List av),(sG y n s ns).length<=ns.length+n
 |0,s,ns=>aP _
 |n+1,s,ns=>by
  have h1:=CM ns s.todo[0]!;rw[sG];split
  .omega
  .split
   .omega
   .have:=LY y n (Bg y s) (jo ns s.todo[0]!);omega
def Nf (all:List Key)(ns:List av):∀i,(ZQ all ns i).length<=ns.length+i
 |0=>aP _
 |i+1=>by
  have h1:=CM (ZQ all ns i) all[i]!;have h2:=Nf all ns i;rw[ZQ];omega
def dk (y:cD)(ns:List av):List D:=ns.map fun nm=>uG (dK y nm)
def eF (a b n:Nat):D:=.agg [.own a 1 0 n,.own b 1 0 n]
def BU (y:cD)(lf ln lr:Nat)(ns:List av)(m:List (Nat×bm)):Prop:=look m lf=some (.buf 2 [eF ln lr ns.length])/\look m ln=some (.buf 1 (ns.map D.str))/\look m lr=some (.buf 1 (dk y ns))
def Ny (Y:Ctx)(n:Nat)(y:cD)(aE4:D->List D)(ns ns':List av)(V:D):Prop:=∀(nx lf ln lr:Nat) (m:List (Nat×bm)) (K:D->St->Prop),lf<nx->ln<nx->lr<nx->ln≠lr->BU y lf ln lr ns m->
 K V ⟨nx+2,(nx,.buf 1 (ns'.map D.str))::(nx+1,.buf 1 (dk y ns'))::cL (cQ (cQ m ln) lr) lf (.buf 2 [eF nx (nx+1) ns'.length])⟩->Y.tr n (aE4 (.ptr lf 2 0 0)) ⟨nx,m⟩ K
def Ku (y:cD)(ns':List av)(V:D):D->List (Nat×bm)->Prop:=fun d m=>d=V/\∃j k:Nat,(0<j/\0<k/\j≠k)/\BU y 0 j k ns' m
def jg (y:cD)(ns:List av):aL (dk y ns)=true:=bH (fun _=>rfl) _
def Ia (ns:List av):aL (ns.map D.str)=true:=bH (fun _=>rfl) _
def zm (y:cD)(ns:List av):(dk y ns).length=ns.length:=bj ..
def ad8 (aE4:D->List D):Prop:=∀σ l l',mz 0 σ l=some l'->(aE4 (.ptr l 2 0 0)).length=(aE4 (.ptr l' 2 0 0)).length/\∀i,i<(aE4 (.ptr l 2 0 0)).length->RnD 0 σ ((aE4 (.ptr l 2 0 0)).getD i .any) ((aE4 (.ptr l' 2 0 0)).getD i .any)
end Go.Abs
namespace Go.Abs
variable {Y:Ctx}(hm:(Y.at 0).bR)
def fdR (y:cD)(ns:List av):D:=.ref 2 [.agg [.sl 1 (ns.map D.str),.sl 1 (dk y ns)]] 0 0
end Go.Abs
end
namespace Go.Abs
variable {Y:Ctx}(hm:(Y.at 0).bR)
def iPin (a b:iH):iH.D a=iH.D b↔a=b:=by cases a;cases b;simp[iH.D]
def WY (a b:List iH):a.map iH.D=b.map iH.D↔a=b:=kL iPin a b
def aeN (a b:kv):kv.D a=kv.D b↔a=b:=by cases a;cases b;simp[kv.D]
def WU (a b:List kv):a.map kv.D=b.map kv.D↔a=b:=kL aeN a b
def iMan (a b:gV):gV.D a=gV.D b↔a=b:=by
 obtain⟨⟨n,⟨v1,v2,v3,v4,v5⟩,x,y,z⟩,p,q⟩:=a;obtain⟨⟨n',⟨w1,w2,w3,w4,w5⟩,x',y',z'⟩,p',q'⟩:=b;simp[gV.D,CF,K7,CE,WY,WU,and_assoc]
def aeP (a b:List gV):a.map gV.D=b.map gV.D↔a=b:=kL iMan a b
def aeO (a b:Key):Key.D a=Key.D b↔a=b:=by cases a;cases b;simp[Key.D]
def iKeys (a b:List Key):a.map Key.D=b.map Key.D↔a=b:=kL aeO a b
def iKp (a b:Kp):Kp.D a=Kp.D b↔a=b:=by
 obtain⟨n,⟨v1,v2,v3,v4,v5⟩⟩:=a;obtain⟨n',⟨w1,w2,w3,w4,w5⟩⟩:=b;simp[Kp.D,and_assoc]
def iKps (a b:List Kp):a.map Kp.D=b.map Kp.D↔a=b:=kL iKp a b
def iAsd (a b:jv):jv.D a=jv.D b↔a=b:=by
 obtain⟨⟨n,f⟩,⟨x,y⟩⟩:=a;obtain⟨⟨n',f'⟩,⟨x',y'⟩⟩:=b;simp[jv.D,CG,and_assoc]
def aeL (a b:fK):dR a=dR b↔a=b:=by simp only[dR,D.sl.injEq,dJ];exact kL iAsd a b
def aix (a b:List fK):a.map dR=b.map dR↔a=b:=kL aeL a b
def iYrd (y y':cD)(f f':D):cD.D y f=cD.D y' f'↔y=y'/\f=f':=by
 obtain⟨l,s,⟨a,b,c⟩,k,p⟩:=y;obtain⟨l',s',⟨a',b',c'⟩,k',p'⟩:=y';simp[cD.D,aeP,WZ,iKps,WY,and_assoc]
def V2 {A:RT->Prop}(h:A (fun ds d=>A fun ds' d'=>ds'=ds->d=d'):=by
 (repeat' first|apply And.intro|intro _)
 all_goals rename_i e
 all_goals (try simp only[sY,D.str.injEq,D.int.injEq,D.bool.injEq,D.sl.injEq,D.ref.injEq,D.agg.injEq,D.fn.injEq,W1,Tt,iByt,iVer,W4,N8,WX,CF,iBar,K7,WT,CE,iRec,WS,iEtr,iShf,WZ,iEnv,iLkd,WW,iLck,iCut,aeM,W0,CG,iSet,W3,G2,W5,N9,iCnd,WR,iUnt,W2,iWld,iKey,iGs,aeQ,iTrm,aeR,iTr,iTrL,iMsk,iAsk,WV,iMan,aeP,iPin,WY,aeN,WU,aeO,iKeys,iKps,iAsd,aeL,aix,iYrd,List.map_cons,List.map_nil,iU8,px,iNat,dj,dJ,reduceCtorEq,fR,fI]at e)
 all_goals first|rfl|(simp only[e];done)|simp_all):Det (Hd A):=ag4 h
section
def rJ {a b:Nat}(h:a≠b):Nat.beq a b=false:=by
 cases q:Nat.beq a b with
 |false=>rfl
 |true=>exact absurd (Nat.eq_of_beq_eq_true q) h
def QX {σ:List (Nat×Nat)}{a b a' b' n:Nat}(h1:mz 0 σ a=some a')(h2:mz 0 σ b=some b'):rN 0 σ (eF a b n)=some (eF a' b' n):=by simp only[eF,rN,oo,R0,h1,h2]
section
variable [cN] {P:Program} {ν:List (Nat×Nat)} {bP:List Nat} {t:List (Nat×mA)} {fid key u:Nat} {af:aj} {y:cD} {aE4:D->List D} {ns ns':List av} {V:D} {lf ln lr nx:Nat} {m:List (Nat×bm)} {K:D->St->Prop}
def nQ (has:ad8 aE4)(hV:V.aR=true)(hmix:P.follows .mixedOrders=true)(hC:SP P ν bP fid af)(hnp:(aE4 (.ptr 0 2 0 0)).length=af.np)
  (h1:lf<nx) (h2:ln<nx) (h3:lr<nx) (hne:ln≠lr) (hat:BU y lf ln lr ns m)
  (hK:K V ⟨nx+2,(nx,.buf 1 (ns'.map D.str))::(nx+1,.buf 1 (dk y ns'))::cL (cQ (cQ m ln) lr) lf (.buf 2 [eF nx (nx+1) ns'.length])⟩)
  (hw:dp ((under t key u).at 3) af.body (rI af (Ku y ns' V)) (fq af (aE4 (.ptr 0 2 0 0))) ⟨3,[(0,.buf 2 [eF 1 2 ns.length]),(1,.buf 1 (ns.map D.str)),(2,.buf 1 (dk y ns))]⟩):rO P ν bP (under t key u) fid (aE4 (.ptr lf 2 0 0)) ⟨nx,m⟩ K:=by
 obtain⟨a1,a2,a3⟩:=hat;have n1:lf≠ln:=by
  rintro rfl;rw[a1]at a2;exact absurd (bm.buf.inj (aW a2)).1 aT
 have n2:lf≠lr:=by
  rintro rfl;rw[a1]at a3;exact absurd (bm.buf.inj (aW a3)).1 aT
 have b1:=rJ n1;have b2:=rJ n2;have b3:=rJ hne;have c1:=rJ n1.symm;have c2:=rJ n2.symm;have c3:=rJ hne.symm;have g3:fX 0 3 [(lf,0),(ln,1),(lr,2)]=true:=by simp[fX,b1,b2,b3,c1,c2,c3];decide
 have g4:∀l i,(l,i)∈[(lf,0),(ln,1),(lr,2)]->look m l≠none:=by
  intro l i h;simp only[b9,di,cV,or_false]at h;rcases h with⟨rfl,_⟩|⟨rfl,_⟩|⟨rfl,_⟩<;>simp[a1,a2,a3]
 have g5:∀i b,look [(0,.buf 2 [eF 1 2 ns.length]),(1,.buf 1 (ns.map D.str)),(2,.buf 1 (dk y ns))] i=some b->∃l b',(l,i)∈[(lf,0),(ln,1),(lr,2)]/\look m l=some b'/\pB 0 [(lf,0),(ln,1),(lr,2)] b' b:=by
  intro i b h;simp only[look]at h;split at h
  .rename_i e;subst e;obtain rfl:=aW h;exact⟨lf,_,.head _,a1,rfl,.inr (.inl (by simp only[oo,QX (σ:=[(lf,0),(ln,1),(lr,2)]) (a:=ln) (b:=lr) (a':=1) (b':=2) (by simp[mz,b1]) (by simp[mz,b2,b3])]))⟩
  .split at h
   .rename_i e;subst e;obtain rfl:=aW h;exact⟨ln,_,.tail _ (.head _),a2,rfl,.inl ⟨rfl,Ia ns⟩⟩
   .split at h
    .rename_i e;subst e;obtain rfl:=aW h;exact⟨lr,_,.tail _ (.tail _ (.head _)),a3,rfl,.inl ⟨rfl,jg y ns⟩⟩
    .cases h
 obtain⟨e1,e2⟩:=has [(lf,0),(ln,1),(lr,2)] lf 0 (by simp[mz]);refine Fu (σi:=[(lf,0),(ln,1),(lr,2)]) (cs:=aE4 (.ptr 0 2 0 0)) (fun q=>D8 t key u q) hmix hC e1.symm e2 hnp g3 g4 g5 hw ?_;rintro d m1 ⟨rfl,j,k,⟨hj,hk,hjk⟩,d1,d2,d3⟩;have q1:Nat.beq 0 j=false:=rJ ae;have q2:Nat.beq 0 k=false:=rJ ae;have q3:Nat.beq j k=false:=rJ hjk;have q4:Nat.beq j 0=false:=rJ ae;have q5:Nat.beq k 0=false:=rJ ae;have q6:Nat.beq k j=false:=rJ (Ne.symm hjk);have r1:Nat.beq lf nx=false:=rJ ae;have r2:Nat.beq lf (nx+1)=false:=rJ ae;have r3:Nat.beq nx (nx+1)=false:=rJ ae;have r4:Nat.beq nx lf=false:=rJ ae;have r5:Nat.beq (nx+1) lf=false:=rJ ae;have r6:Nat.beq (nx+1) nx=false:=rJ ae;refine⟨[(0,lf),(j,nx),(k,nx+1)],j+k+1,_,d,⟨g3, ?_,Nat.le_add_right _ _,g4, ?_,g5, ?_⟩,.inl ⟨rfl,hV⟩,hK⟩
 .simp[fX,q1,q2,q3,q4,q5,q6,r1,r2,r3,r4,r5,r6];omega
 .intro i l h;simp only[b9,di,cV,or_false]at h;rcases h with⟨rfl,rfl⟩|⟨rfl,rfl⟩|⟨rfl,rfl⟩
  .exact .inl (.head _)
  .exact .inr (aP _)
  .exact .inr (Nat.le_succ _)
 .intro l bb h;simp only[look]at h;split at h
  .rename_i e;subst e;obtain rfl:=aW h;exact .inl ⟨j,_,.tail _ (.head _),d2,rfl,.inl ⟨rfl,Ia _⟩⟩
  .rename_i hln;split at h
   .rename_i e;subst e;obtain rfl:=aW h;exact .inl ⟨k,_,.tail _ (.tail _ (.head _)),d3,rfl,.inl ⟨rfl,jg _ _⟩⟩
   .rename_i hln2;rw[bJ]at h;split at h
    .rename_i e;subst e;obtain rfl:=aW h;exact .inl ⟨0,_,.head _,d1,rfl,.inr (.inl (by simp only[oo,QX (σ:=[(0,l),(j,nx),(k,nx+1)]) (a:=j) (b:=k) (a':=nx) (b':=nx+1) (by simp[mz,q1]) (by simp[mz,q2,q3])]))⟩
    .rename_i hlf;rw[eY]at h;split at h
     .cases h
     .rename_i hl3;rw[eY]at h;split at h
      .cases h
      .rename_i hl2;refine .inr ⟨by simp only[nq,ai (fun e=>hlf (Eq.symm e)),ai hln,ai hln2],fun i hi=>?_,h⟩;simp only[b9,di,cV,or_false]at hi;rcases hi with⟨rfl,_⟩|⟨rfl,_⟩|⟨rfl,_⟩
       .exact hlf rfl
       .exact hl2 rfl
       .exact hl3 rfl
end
end
end Go.Abs
section
namespace Go.Abs
variable {Y:Ctx}(hm:(Y.at 0).bR)
def nP {α β:Type} [Inhabited α]{f:α->List β}{l:List α}{i:Nat}(h:i<l.length):(l.take (i+1)).flatMap f=(l.take i).flatMap f++f l[i]! :=by
 have e:l.take (i+1)=l.take i++[l[i]!]:=by
  rw[List.take_add_one,List.getElem?_eq_getElem h];simp[h]
 rw[e,List.flatMap_append];simp
def map_take {α β:Type} [Inhabited α]{f:α->β}{l:List α}{i:Nat}(h:i<l.length):(l.take (i+1)).map f=(l.take i).map f++[f l[i]!]:=by
 have e:l.take (i+1)=l.take i++[l[i]!]:=by
  rw[List.take_add_one,List.getElem?_eq_getElem h];simp[h]
 rw[e,List.map_append];rfl
def Gi {α β:Type}{f:α->β}(xs:List α):(xs.map f).take xs.length=xs.map f:=by rw[<-bj (f:=f),List.take_length]
def Fs {α:Type} [Inhabited α]{f:α->Bool}{l:List α}{i:Nat}(h:i<l.length):(l.take (i+1)).filter f=(l.take i).filter f++(if f l[i]! =true then [l[i]!]else []):=by
 have e:l.take (i+1)=l.take i++[l[i]!]:=by
  rw[List.take_add_one,List.getElem?_eq_getElem h];simp[h]
 rw[e,List.filter_append,List.filter_cons,List.filter_nil]
def VX {m:gV}(h:¬(c7 m.r).1=0):kC m=c7 m.r:=ak h
def VV {m:gV}(h:¬¬(c7 m.r).1=0)(h2:8<m.ps.length\/8<m.hs.length):kC m=(3,0):=by unfold kC;rw[ai h,ak h2]
def VW {m:gV}(h:¬¬(c7 m.r).1=0)(h2:¬(8<m.ps.length\/8<m.hs.length)){q:Int×Int}(h3:Db m.ps=q)(h4:¬q.1=0):kC m=q:=by
 subst h3;unfold kC;rw[ai h,ai h2,ak h4]
def VU {m:gV}(h:¬¬(c7 m.r).1=0)(h2:¬(8<m.ps.length\/8<m.hs.length))(h3:(Db m.ps).1=0){q:Int×Int}(h4:Cy m.hs=q):kC m=q:=by
 subst h4;unfold kC;rw[ai h,ai h2,ai (fun h=>h h3)]
def LU {l:List iH}{i:Nat}(h:(dn l[i]!.name=false\/dn l[i]!.shelf=false)\/(0<i/\Op.bytesLess l[i-1]!.name l[i]!.name=false)):LS l i=15:=ak h
def RE {l:List iH}{i:Nat}(h:¬((dn l[i]!.name=false\/dn l[i]!.shelf=false)\/(0<i/\Op.bytesLess l[i-1]!.name l[i]!.name=false))):LS l i=0:=ai h
def acv {l:List kv}{i:Nat}(h:dn l[i]!.name=false\/(0<i/\Op.bytesLess l[i-1]!.name l[i]!.name=false)):Cw l i=4:=ak h
def acw {l:List kv}{i:Nat}(h:¬(dn l[i]!.name=false\/(0<i/\Op.bytesLess l[i-1]!.name l[i]!.name=false)))(h2:qN l[i]!.range=false):Cw l i=6:=by unfold Cw;rw[ai h,ak h2]
def WQ {l:List kv}{i:Nat}(h:¬(dn l[i]!.name=false\/(0<i/\Op.bytesLess l[i-1]!.name l[i]!.name=false)))(h2:qN l[i]!.range=true):Cw l i=0:=by unfold Cw;rw[ai h,ai (by rw[h2];simp)]
def yy {l:List gV}(h:wG l):l.length=1/\∀i,i<l.length->Vn l[i]! :=by
 obtain⟨m,rfl,hm⟩:=h;refine⟨rfl,fun i hi=>?_⟩;obtain rfl:i=0:=by simpa using hi
 exact hm
def ai6 {m:gV}(h:Vn m):kC m=(0,0):=by
 obtain⟨⟨h1,_⟩,_⟩:=h;have h0:=h1;unfold kC at h1⊢;split
 .rename_i h2;rw[ak h2]at h1;exact absurd h1 h2
 .rename_i h2;rw[ai h2]at h1;split
  .rename_i h3;rw[ak h3]at h1;cases h1
  .rename_i h3;rw[ai h3]at h1;split
   .rename_i h4;rw[ak h4]at h1;exact absurd h1 h4
   .rename_i h4;rw[ai h4]at h1;exact Co _ _ _ h1
def PZ {l:List gV}(h:wG l){i:Nat}(hi:i<l.length):lF l l[i]!.r.name=(i:Nat):=by
 obtain⟨m,rfl,hm⟩:=h;obtain rfl:i=0:=by simpa using hi
 show fY (isM m.r.name) [m] 0=0;simp[fY,isM]
def tE {l:List gV}(h:wG l){i:Nat}(hi:i<l.length):l[i]!.ps=gK l/\l[i]!.hs=l[0]!.hs/\l[i]!.ps.length<=1/\l[i]!.hs.length<=1:=by
 have h1:=yy h;obtain rfl:i=0:=ae;exact⟨rfl,rfl,(h1.2 0 hi).2⟩
def aiw {l:List gV}{nm:av}{k:Nat}(hk:k=0)(h:k<l[0]!.hs.length)(h2:l[0]!.hs[k]!.name=nm):kI l nm=eR l[0]!.hs[k]!.range:=by
 subst hk;unfold kI;rw[ak ⟨ae,h2⟩]
def aiv {l:List gV}{nm:av}{k:Nat}(hk:k=0)(h2:¬l[0]!.hs[k]!.name=nm):kI l nm=pD:=by
 subst hk;unfold kI;rw[ai fun h=>h2 h.2]
def aiu {l:List gV}{nm:av}{k:Nat}(hk:k=l[0]!.hs.length):(if k=0 then pD else kI l nm)=kI l nm:=by
 split
 .unfold kI;rw[ai fun h=>h.1 ae]
 .rfl
def lE (l:List iH)(p:iH):List iH×Bool:=
 if kPin l p 0<l.length/\l[kPin l p 0]!.name=p.name then(l,decide (l[kPin l p 0]! =p))else((l.take (kPin l p 0)++[p])++l.drop (kPin l p 0),true)
where kPin (l:List iH) (p:iH) (i:Nat):Nat:=i+((l.drop i).takeWhile fun x=>Op.bytesLess x.name p.name).length
def TA {l:List iH}{p:iH}{i:Nat}(h:i<l.length)(hc:Op.bytesLess l[i]!.name p.name=true):lE.kPin l p i=lE.kPin l p (i+1):=by
 unfold lE.kPin;rw[eV h,List.takeWhile_cons_of_pos (by simpa[h]using hc)];simp;omega
def TB {l:List iH}{p:iH}{i:Nat}(h:i<l.length->Op.bytesLess l[i]!.name p.name=false):lE.kPin l p i=i:=by
 unfold lE.kPin;rcases eh i l.length with hi|hi
 .rw[eV hi,List.takeWhile_cons_of_neg (by simpa[hi]using h hi)];rfl
 .rw[j4 hi];rfl
def X9 {k:Nat}(hk:k=0){l:List iH}(h:k<l.length):lE (l.take k) l[k]! =(l.take (k+1),true):=by
 subst hk;cases l with
 |nil=>cases h
 |cons a r=>rfl
def Xb {l:List Key}{k:Key}{i:Nat}(h:i<l.length)(hc:eX l[i]! k=true):EN l k i=EN l k (i+1):=by
 unfold EN;rw[eV h,List.takeWhile_cons_of_pos (by simpa[h]using hc)];simp;omega
def Xc {l:List Key}{k:Key}{i:Nat}(h:i<l.length->eX l[i]! k=false):EN l k i=i:=by
 unfold EN;rcases eh i l.length with hi|hi
 .rw[eV hi,List.takeWhile_cons_of_neg (by simpa[hi]using h hi)];rfl
 .rw[j4 hi];rfl
def Tu {es:List kr}{l:List Int}{i k:Nat}(h:k<l.length)(hc:iL es[(l[k]!).toNat]!.r.v es[i]!.r.v<0):A4 es l i k=A4 es l i (k+1):=by
 unfold A4;rw[eV h,List.takeWhile_cons_of_pos (by simpa[h]using hc)];simp;omega
def Tv {es:List kr}{l:List Int}{i k:Nat}(h:k<l.length->¬iL es[(l[k]!).toNat]!.r.v es[i]!.r.v<0):A4 es l i k=k:=by
 unfold A4;rcases eh k l.length with hi|hi
 .rw[eV hi,List.takeWhile_cons_of_neg (by simpa[hi]using h hi)];rfl
 .rw[j4 hi];rfl
def Key.eqD (a b:Key):hR (Key.D a).cells (Key.D b).cells=decide (a=b):=by
 obtain⟨a1,a2⟩:=a;obtain⟨b1,b2⟩:=b
 grind [Key.D,D.cells,hR,tj]
def iH.eq (a b:iH):hR (iH.D a).cells (iH.D b).cells=decide (a=b):=by
 obtain⟨a1,a2⟩:=a;obtain⟨b1,b2⟩:=b
 grind [iH.D,D.cells,hR,tj]
def X7 {l:List iH}{i:Nat}(h:(dn l[i]!.name=false\/dn l[i]!.shelf=false)\/(0<i/\Op.bytesLess l[i-1]!.name l[i]!.name=false)):decide (LS l i=0)=false:=by rw[LU h];rfl
def T0 {l:List iH}{i:Nat}(h:¬((dn l[i]!.name=false\/dn l[i]!.shelf=false)\/(0<i/\Op.bytesLess l[i-1]!.name l[i]!.name=false))):decide (LS l i=0)=true:=by rw[RE h];rfl
def X2 {ns:List br}{e:Env}{o:av}{i:Nat}(h:i<ns.length):qL (ns.take i) e o++Bb e o ns[i]! =qL (ns.take (i+1)) e o:=by unfold qL;rw[nP h]
def ajA {e:Env}{o:av}{n:br}(h:n.option=o/\FI n.when' e=true):Bb e o n=iG n:=by unfold Bb;rw[ak h]
def ajz {e:Env}{o:av}{n:br}(h:¬n.option=o\/FI n.when' e=false):Bb e o n=[]:=by unfold Bb;rw[ai (by rintro⟨h1,h2⟩;rcases h with h|h;exact h h1;rw[h]at h2;cases h2)]
def Hz {ns:List br}{e:Env}{nm ft:av}{i:Nat}(h:i<ns.length):iT (ns.take i) e nm ft++ru e nm ft ns[i]! =iT (ns.take (i+1)) e nm ft:=by unfold iT;rw[nP h]
def adl {e:Env}{nm ft:av}{n:br}(h:(¬(n.any.length:Int)=1\/¬n.any[0]!.name=nm)\/FI n.when' e=false):ru e nm ft n=[]:=by
 unfold ru;rw[ai];rintro⟨⟨h1,h2⟩,h3⟩;rcases h with(h|h)|h
 .omega
 .exact h h2
 .rw[h]at h3;cases h3
def X0 (n:br):List fK:=if n.option=[]then []else iG n
def RI {e:Env}{nm ft:av}{n:br}(h:((n.any.length:Int)=1/\n.any[0]!.name=nm)/\FI n.when' e=true):ru e nm ft n=X0 n++[[⟨⟨nm,ft⟩,eR n.any[0]!.range⟩]]:=by
 unfold ru;rw[ak ⟨⟨ae,h.1.2⟩,h.2⟩];rfl
def y6 (r:Rec)(e:Env)(ft:av)(i:Nat):List fK:=[[⟨⟨r.name,[]⟩,er r.v⟩]]++((uT r.feats ft).take i).flatMap (lZ r e)
def OA {r:Rec}{e:Env}{ft:av}{i:Nat}(h:i<(uT r.feats ft).length):y6 r e ft i++lZ r e (uT r.feats ft)[i]! =y6 r e ft (i+1):=by unfold y6;rw[nP h,fj]
def aja {r:Rec}{e:Env}{ft:av}(h:¬ft=[]):y6 r e ft (uT r.feats ft).length=dc r e ft:=by unfold y6 dc;rw[ai h,List.take_length]
def XD {r:Rec}{e:Env}{ft:av}(h:BY r)(i:Nat):(y6 r e ft i).length<=1+384:=by
 have h2:=(xG h ft).1;have h1:=ir (f:=lZ r e) (B:=64) (l:=(uT r.feats ft).take i) fun s _=>(tp h).1
 unfold y6;rw[eg]at h1;rw[ct,List.length_singleton];have:64*min i (uT r.feats ft).length<=64*6:=Nat.mul_le_mul_left _ ae;omega
def aiM {r:Rec}{e:Env}{s:av}(h:(bL s).1=1):lZ r e s=[[⟨⟨r.name,(bL s).2.1⟩,er r.v⟩]]:=by unfold lZ;rw[ak h]
def aiN {r:Rec}{e:Env}{s:av}(h:¬(bL s).1=1)(h2:(bL s).1=2):lZ r e s=qL r.needs e (bL s).2.1:=by unfold lZ;rw[ai h,ak h2]
def aiO {r:Rec}{e:Env}{s:av}(h:¬(bL s).1=1)(h2:¬(bL s).1=2):lZ r e s=iT r.needs e (bL s).2.1 (bL s).2.2:=by unfold lZ;rw[ai h,ai h2]
def Th (l:List ch)(nm:av):findF l nm 0=-1\/∃j:Nat,findF l nm 0=(j:Int)/\j<l.length:=by
 unfold findF;rw[cT];cases h:l.findIdx? (fun x=>decide (x.name=nm))with
 |none=>exact .inl rfl
 |some k=>exact .inr ⟨k,aG,(List.findIdx?_eq_some_iff_getElem.1 h).1⟩
def rD (all:List Key)(r:fK)(i:Nat):oz:=(r.take i).map fun a=>⟨eP all a.k,a.s⟩
def adW {all:List Key}{r:fK}{i:Nat}(h:i<r.length):rD all r i++[⟨eP all r[i]!.k,r[i]!.s⟩]=rD all r (i+1):=by unfold rD;rw[map_take h]
def UH (all:List Key)(r:fK)(i:Nat):(rD all r i).length<=i:=by unfold rD;rw[bj,eg];omega
def adV {all:List Key}{l:List fK}{i:Nat}(h:i<l.length):dL all (l.take i)++[rD all l[i]! l[i]!.length]=dL all (l.take (i+1)):=by unfold dL rD;rw[map_take h,List.take_length]
def UG (all:List Key)(l:List fK)(i:Nat):(dL all (l.take i)).length<=i:=by unfold dL;rw[bj,eg];omega
def Qz {all:List Key}{r:Rec}{e:Env}{i:Nat}(h:i<r.bars.length):(r.bars.take i).flatMap (qq all e)++qq all e r.bars[i]! =(r.bars.take (i+1)).flatMap (qq all e):=by rw[nP h]
def agQ {all:List Key}{e:Env}{b:my}(h:0<=eP all ⟨b.name,[]⟩/\FI b.when' e=true):qq all e b=[⟨eP all ⟨b.name,[]⟩,eR b.range⟩]:=by unfold qq;rw[ak h]
def agP {all:List Key}{e:Env}{b:my}(h:¬0<=eP all ⟨b.name,[]⟩\/FI b.when' e=false):qq all e b=[]:=by unfold qq;rw[ai (by rintro⟨h1,h2⟩;rcases h with h|h;exact h h1;rw[h]at h2;cases h2)]
def VG (all:List Key)(e:Env)(b:my):(qq all e b).length<=1:=by unfold qq;split<;>simp
def S6 (all:List Key)(e:Env)(l:List my)(i:Nat):((l.take i).flatMap (qq all e)).length<=i:=by
 have h:=ir (f:=qq all e) (B:=1) (l:=l.take i) fun b _=>VG all e b
 rw[eg]at h;omega
def akk {l:List gV}{i:Nat}(h:i<l.length):eC (l.take i)++[[⟨⟨l[i]!.r.name,nM⟩,er l[i]!.r.v⟩]]=eC (l.take (i+1)):=by unfold eC;rw[map_take h]
def Zf (l:List gV)(i:Nat):(eC (l.take i)).length<=i:=by unfold eC;rw[bj,eg];omega
def aco (l k:Nat)(es:List Abs.D)(xs:List oz):lg l k es (xs.map jC)=xs.map jC:=jE l k es _ (bH (fun _=>rfl) _)
def gV.fz (l k:Nat)(es:List Abs.D)(c:gV):iA l k es c.D=c.D:=gu l k es _ rfl
def my.fz (l k:Nat)(es:List Abs.D)(c:my):iA l k es c.D=c.D:=gu l k es _ rfl
def jv.fz (l k:Nat)(es:List Abs.D)(c:jv):iA l k es c.D=c.D:=gu l k es _ rfl
end Go.Abs
namespace Go.Abs
variable {Y:Ctx}(hm:(Y.at 0).bR)
section
variable {shop:List bN} {ps:List iH} {nm:av}
def aij (h:fJ shop=false):gp shop ps nm=(0,1):=by unfold gp;rw[ak h]
def aik (h:fJ shop=true)(h2:Ai ps=false):gp shop ps nm=(0,15):=by unfold gp;rw[ai ju,ak h2]
def ail {i:Nat}(h:fJ shop=true)(h2:Ai ps=true)(h3:E0 ps nm=(i:Nat))(h4:mg shop ps[i]!.shelf<0):gp shop ps nm=(0,12):=by
 unfold gp;rw[ai ju,ai (by rw[h2];simp),ak ae,h3,Int.toNat_natCast,ak h4]
def aim {i:Nat}(h:fJ shop=true)(h2:Ai ps=true)(h3:E0 ps nm=(i:Nat))(h4:¬mg shop ps[i]!.shelf<0):gp shop ps nm=(mg shop ps[i]!.shelf,0):=by
 unfold gp;rw[ai ju,ai (by rw[h2];simp),ak ae,h3,Int.toNat_natCast,ai h4]
def ain {j:Nat}(h:fJ shop=true)(h2:Ai ps=true)(h3:E0 ps nm=-1)(h4:fY (Cv nm) shop 0=(j:Nat)):gp shop ps nm=(((j:Nat):Int),0):=by
 unfold gp;rw[ai ju,ai (by rw[h2];simp),ai ae,h4,ai ae]
def aio (h:fJ shop=true)(h2:Ai ps=true)(h3:E0 ps nm=-1)(h4:fY (Cv nm) shop 0=-1):gp shop ps nm=(0,9):=by
 unfold gp;rw[ai ju,ai (by rw[h2];simp),ai ae,h4];rfl
end
def acC {es:List kr}{l:List Int}{i k:Nat}(h:A4 es l i 0=k):(l.take k++[((i:Nat):Int)])++l.drop k=G7 es l i:=by unfold G7;rw[h]
def acM {es:List kr}{nm:av}{i:Nat}(h:es[i]!.r.name=nm):G7 es (eB es nm i) i=eB es nm (i+1):=by rw[eB,ak h]
def acL {es:List kr}{nm:av}{i:Nat}(h:¬es[i]!.r.name=nm):eB es nm i=eB es nm (i+1):=by rw[eB,ai h]
def acK {s:bN}{nm:av}(h:ie s=true):eB s.es nm s.es.length=ke s nm:=by unfold ke;rw[h,ai aG]
def adp {l:List Key}{k:Key}{i:Nat}(h:EN l k 0=i)(h2:¬(i<l.length/\l[i]! =k)):(l.take i++[k])++l.drop i=sD l k:=by unfold sD;rw[h,ai h2]
def adn {l:List Key}{k:Key}{i:Nat}(h:EN l k 0=i)(h2:i<l.length/\l[i]! =k):l=sD l k:=by unfold sD;rw[h,ak h2]
def D3 {α:Type}{l:List α}{i:Nat}{x:α}(h:x∈l.take i):x∈l:=zG h
def kU (x:de):List Key:=if x.bare=true then []else [⟨x.name,nM⟩]
def oq (x:de):List Key:=if x.bare=true then(if x.feats=[]then [⟨x.name,[]⟩]else [])else [⟨x.name,nM⟩]
def mI (x:de)(i:Nat):List Key:=oq x++(x.feats.take i).map (Key.mk x.name)
def ZD {x:de}(h:x.bare=false):kU x=[⟨x.name,nM⟩]:=by unfold kU;rw[h];rfl
def ZE {x:de}(h:x.bare=true):kU x=[]:=by unfold kU;rw[ak h]
def ZG {x:de}(h:x.bare=true/\(x.feats.length:Int)=0):kU x++[⟨x.name,[]⟩]=oq x:=by
 have:x.feats=[]:=Z5.1 ae;unfold kU oq;rw[ak h.1,ak h.1,ak this];rfl
def ZF {x:de}(h:x.bare=false\/¬(x.feats.length:Int)=0):kU x=oq x:=by
 unfold kU oq;cases hb:x.bare with
 |false=>rfl
 |true=>
  have h2:=h.resolve_left (by rw[hb];simp);have:¬x.feats=[]:=fun e=>h2 (by rw[e];rfl)
  rw[ak rfl,ak rfl,ai this]
def PQ (x:de):(kU x).length<=1:=by unfold kU;split<;>simp
def PR (x:de):(oq x).length<=1:=by unfold oq;split<;>(try split)<;>simp
def PS (x:de)(i:Nat):(mI x i).length<=1+i:=by
 have:=PR x;unfold mI;rw[ct,bj,eg];omega
def ZH (x:de):oq x=mI x 0:=by unfold mI;simp
def ZJ {x:de}{i:Nat}(h:i<x.feats.length):mI x i++[⟨x.name,x.feats[i]!⟩]=mI x (i+1):=by
 unfold mI;rw[map_take h,<-fj]
def ZI (x:de):mI x x.feats.length=eS x:=by unfold mI eS oq;rw[List.take_length]
def asdK (s:cy)(k:Key):fK:=[⟨k,s⟩]
def zp (n:br)(i:Nat):List fK:=((eS n.any[0]!).take i).map (asdK (eR n.any[0]!.range))
def akp {n:br}{i:Nat}(h:i<(eS n.any[0]!).length):zp n i++[asdK (eR n.any[0]!.range) (eS n.any[0]!)[i]!]=zp n (i+1):=by unfold zp;rw[map_take h]
def ako {n:br}(h:(n.any.length:Int)=1):zp n (eS n.any[0]!).length=iG n:=by unfold zp iG;rw[ak ae,List.take_length];rfl
def Zi (n:br)(i:Nat):(zp n i).length<=i:=by unfold zp;rw[bj,eg];omega
def XP (w:de):jv:=⟨(eS w)[0]!,eR w.range⟩
def Ba (n:br)(i:Nat):List jv:=(n.any.take i).map XP
def ajp {n:br}{i:Nat}(h:i<n.any.length):Ba n i++[XP n.any[i]!]=Ba n (i+1):=by unfold Ba;rw[map_take h]
def ajo {n:br}(h:¬(n.any.length:Int)=1):[Ba n n.any.length]=iG n:=by unfold Ba iG;rw[ai ae,List.take_length];rfl
def XO (n:br)(i:Nat):(Ba n i).length<=i:=by unfold Ba;rw[bj,eg];omega
def xh (l k:Nat)(es:List Abs.D)(xs:List fK)(d:Abs.D):lg l k es (xs.map dR++[d])=xs.map dR++[iA l k es d]:=by
 induction xs with
 |nil=>rfl
 |cons x r ih=>rw[List.map_cons,sX,lg,ih];rfl
def Ct (l k:Nat)(es:List Abs.D)(xs:List jv):lg l k es (xs.map jv.D)=xs.map jv.D:=jE l k es _ (bH (fun _=>rfl) _)
def br.fz (l k:Nat)(es:List Abs.D)(c:br):iA l k es c.D=c.D:=gu l k es _ rfl
def Env.fz (l k:Nat)(es:List Abs.D)(c:Env):iA l k es c.D=c.D:=gu l k es _ rfl
def de.fz (l k:Nat)(es:List Abs.D)(c:de):iA l k es c.D=c.D:=gu l k es _ rfl
def cy.fz (l k:Nat)(es:List Abs.D)(c:cy):iA l k es c.D=c.D:=gu l k es _ rfl
def Key.fz (l k:Nat)(es:List Abs.D)(c:Key):iA l k es c.D=c.D:=gu l k es _ rfl
def uA.fz (l k:Nat)(es:List Abs.D)(c:uA):iA l k es c.D=c.D:=gu l k es _ rfl
def pE (xs:List fK)(a:jv):xs.map dR++[.sl 4 [a.D]]=(xs++[[a]]).map dR:=by rw[List.map_append];rfl
def Xn {y:cD}{nm:av}{j:Nat}(hj:lF y.l nm=(j:Nat)):dK y nm=[⟨y.l[j]!.r,-1⟩]:=by
 unfold dK;rw[ak ae,hj,Int.toNat_natCast]
def acP (y:cD)(nm:av):(cM y.shop y.pins nm).2.1.length<=64:=by
 unfold cM;split
 .simp
 .exact(su _ _).1
def ai4 {y:cD}(hy:pC y){nm:av}{i:Nat}(hc:(cM y.shop y.pins nm).2.2=0)(hi:i<(cM y.shop y.pins nm).2.1.length):
  ∃j:Nat,(cM y.shop y.pins nm).1=(j:Int)/\j<y.shop.length/\∃t:Nat,(cM y.shop y.pins nm).2.1[i]! =(t:Int)/\t<y.shop[j]!.es.length/\y.shop[j]!.es[t]!.r.v.sm:=by
 have h2:(gp y.shop y.pins nm).2=0:=by
  unfold cM at hc;split at hc
  .rename_i h3;exact absurd hc h3
  .rename_i h3;exact Classical.not_not.1 h3
 obtain⟨hB,j,hj,hjl⟩:=pL h2;have e1:cM y.shop y.pins nm=((j:Int),ke y.shop[j]! nm,0):=by
  unfold cM;rw[ai (fun h=>h h2),hj,Int.toNat_natCast]
 rw[e1]at hi⊢;dsimp only at hi⊢;obtain⟨h5,h6⟩:=(su y.shop[j]! nm).2 _ (aq hi);refine⟨j,rfl,hjl,(ke y.shop[j]! nm)[i]!.toNat,ae,ae, ?_⟩;exact(hy.1.2 _ (aq hjl) _ (aq ae)).1.2
def FC (y:cD)(nm:av)(a:Nat):∀(l r:List Int),iS y nm a (l++r)=iS y nm a l++iS y nm a r
 |[],_=>rfl
 |x::l,r=>by rw[sX,iS,iS,FC y nm a l r,fj]
def Rc (y:cD)(nm:av)(a:Nat){l:List Int}{i:Nat}(h:i<l.length):iS y nm a (l.take (i+1))=iS y nm a (l.take i)++(if Se y nm y.shop[a]!.es[l[i]!.toNat]! =true then [⟨y.shop[a]!.es[l[i]!.toNat]!.r,(a:Int)⟩]else []):=by
 have e:l.take (i+1)=l.take i++[l[i]!]:=by
  rw[List.take_add_one,List.getElem?_eq_getElem h];simp[h]
 rw[e,FC,iS,iS,gD]
def acO {y:cD}{nm:av}{A:Int}{j:Nat}{l:List Int}{i t:Nat}(hj:A=(j:Int))(h:i<l.length)(ht:l[i]! =(t:Int))(hx:(y.shop[j]!.es[t]!.off=false\/Lh y.keeps y.shop[j]!.es[t]!.r=true)/\pM (kI y.l nm) y.shop[j]!.es[t]!.r.v=true):iS y nm A.toNat (l.take i)++[⟨y.shop[j]!.es[t]!.r,A⟩]=iS y nm A.toNat (l.take (i+1)):=by
 subst hj;rw[Rc y nm _ h,ht,Int.toNat_natCast,Int.toNat_natCast,ak];unfold Se;rw[hx.2];rcases hx.1 with h|h<;>rw[h]<;>simp
def acN {y:cD}{nm:av}{A:Int}{j:Nat}{l:List Int}{i t:Nat}(hj:A=(j:Int))(h:i<l.length)(ht:l[i]! =(t:Int))(hx:(y.shop[j]!.es[t]!.off=true/\Lh y.keeps y.shop[j]!.es[t]!.r=false)\/pM (kI y.l nm) y.shop[j]!.es[t]!.r.v=false):iS y nm A.toNat (l.take i)=iS y nm A.toNat (l.take (i+1)):=by
 subst hj;rw[Rc y nm _ h,ht,Int.toNat_natCast,Int.toNat_natCast,ai,gD];unfold Se;rcases hx with⟨h1,h2⟩|h<;>simp_all
def ai1 {y:cD}{nm:av}{i:Nat}(h0:¬0<=lF y.l nm)(hi:i<=(cM y.shop y.pins nm).2.1.length)(he:¬((i:Nat):Int)<((cM y.shop y.pins nm).2.1.length:Nat)\/¬(cM y.shop y.pins nm).2.2=0):iS y nm (cM y.shop y.pins nm).1.toNat ((cM y.shop y.pins nm).2.1.take i)=dK y nm:=by
 unfold dK;rw[ai h0];by_cases hc:(cM y.shop y.pins nm).2.2=0
 .rw[ai (fun h=>h hc),eU (by rcases he with h|h;omega;exact absurd hc h)]
 .rw[ak hc];have:(cM y.shop y.pins nm).2.1=[]:=by
   unfold cM at hc⊢;split
   .rfl
   .rename_i h;rw[ai h]at hc;exact absurd rfl hc
  rw[this,List.take_nil];rfl
def WO (l:List gV)(nm:av):(kI l nm).sm:=by
 unfold kI;split
 .exact adG _
 .exact abj
def ZM {v:bZ}(h:v∈bU):v.sm:=by
 obtain⟨i,hi,rfl⟩:=fU h;exact tA i
end Go.Abs
end
namespace Go.Abs
variable {Y:Ctx}(hm:(Y.at 0).bR)
section
def rj (n i:Nat):List Int:=(List.range n).map fun u=>if 1<=u/\u<i then-1 else 0
def QI (n i:Nat):List Int:=(List.range n).map fun u=>if u<i then-1 else 0
def te (n i:Nat):(rj n i).length=n:=by simp[rj]
def wR (n i:Nat):(QI n i).length=n:=by simp[QI]
def c0T_1 (n:Nat):List.replicate n (D.int .i64 0)=(rj n 1).map (D.int .i64):=by
 apply List.ext_getElem
 .simp[rj]
 .intro i h1 h2;simp only[List.getElem_replicate,rj,List.getElem_map,List.getElem_range];rw[ai ae]
def c1T_0 (n:Nat):List.replicate n (D.int .i64 0)=(QI n 0).map (D.int .i64):=by
 apply List.ext_getElem
 .simp[QI]
 .intro i h1 h2;simp only[List.getElem_replicate,QI,List.getElem_map,List.getElem_range];rw[ai ae]
def abC {n i:Nat}(h:1<=i)(hi:i<n):(rj n i).set i (-1)=rj n (i+1):=by
 apply List.ext_getElem
 .simp[rj]
 .intro j h1 h2;simp only[List.getElem_set,rj,List.getElem_map,List.getElem_range]
  grind
def abE {n i:Nat}(hi:i<n):(QI n i).set i (-1)=QI n (i+1):=by
 apply List.ext_getElem
 .simp[QI]
 .intro j h1 h2;simp only[List.getElem_set,QI,List.getElem_map,List.getElem_range]
  grind
def abD {n:Nat}:(QI n n).set 0 0=rj n n:=by
 apply List.ext_getElem
 .simp[rj,QI]
 .intro j h1 h2;simp only[List.getElem_set,rj,QI,List.getElem_map,List.getElem_range];simp only[List.length_set,wR]at h1
  grind
def ag1 {n i:Nat}(h:n<=i):rj n i=rj n n:=by
 apply List.ext_getElem
 .simp[rj]
 .intro j h1 h2;simp only[rj,List.getElem_map,List.getElem_range];rw[te]at h1 h2
  grind
def ja (shop:List bN)(e:Env)(w:b6)(l:jT):List Int×Int×av:=
 if fN w=false\/fJ shop=false\/o8 e=false then([],1,[])else if EO l=false\/l.env≠e then([],34,[])
 else yX shop w.us l.lines (rj w.us.length w.us.length)
def ChoP (shop:List bN)(w:b6)(l:jT):Prop:=iP shop/\w.sm/\l.sm
section
variable {shop:List bN} {e:Env} {w:b6} {l:jT}
def aeA (h:(fN w=false\/fJ shop=false)\/o8 e=false):ja shop e w l=([],1,[]):=by
 rw[ja,ak (by grind)]
def aeB (h:(fN w=true/\fJ shop=true)/\o8 e=true)(h2:EO l=false\/¬l.env=e):ja shop e w l=([],34,[]):=by
 rw[ja,ai (by grind),ak h2]
def aeC (h:(fN w=true/\fJ shop=true)/\o8 e=true)(h2:EO l=true/\l.env=e):ja shop e w l=yX shop w.us l.lines (rj w.us.length w.us.length):=by
 rw[ja,ai (by grind),ai (by grind)]
end
def vN (shop:List bN)(us:List c9)(l:List dm)(c:List Int):Nat->List Int
 |0=>c
 |i+1=>(kN shop us l[i]! (vN shop us l c i)).2
def CP {shop:List bN}{us:List c9}{l:List dm}{c:List Int}:∀i,(vN shop us l c i).length=c.length
 |0=>rfl
 |i+1=>by rw[vN,Yu,CP]
def uH (us:List c9):Nat->List D
 |0=>[]
 |i+1=>if 0<i then Ae (wu us[i]!.name us[i]!.feat) (.int .i64 (i:Nat)) (uH us i)else []
def aeW {k v:D}(hk:vK k=true):∀{l:List D},xA l=true->xA (Ae k v l)=true
 |[],_=>by simp[Ae,xA,hk]
 |[_],h=>by simp[xA]at h
 |a::b::r,h=>by
  simp only[xA,aN]at h;rw[Ae];cases pQ a k
  .simp only[cond_false,xA,h.1,aeW hk h.2,Bool.and_self]
  .simp only[cond_true,xA,h.1,h.2,Bool.and_self]
def D7 (us:List c9):∀i,xA (uH us i)=true
 |0=>rfl
 |i+1=>by
  rw[uH];split
  .exact aeW rfl (D7 us i)
  .rfl
def Od (a b c d:av):pQ (wu a b) (wu c d)=(decide (a=c)&&decide (b=d)):=by
 simp only[pQ,wu];rw[Bool.eq_iff_iff];simp
def Q7 {a:D}{c d:av}(h:pQ a (wu c d)=true):a=wu c d:=by
 unfold pQ wu at h;split at h
 .rename_i h1;simp only[D.agg.injEq,sY,D.str.injEq,dj,aN,beq_iff_eq]at h1 h;obtain⟨rfl,rfl⟩:=h1;rw[h.1,h.2];rfl
 .cases h
def Xx {a b c d:av}{v:D}:∀{l:List D},xA l=true->Ns (wu a b) (Ae (wu c d) v l)=if a=c/\b=d then some v else Ns (wu a b) l
 |[],_=>by
  simp only[Ae,Ns,Od];by_cases h:a=c/\b=d
  .rw[ak h];simp[h]
  .rw[ai h];have:(decide (c=a)&&decide (d=b))=false:=by grind
   rw[this];rfl
 |[_],h=>by simp[xA]at h
 |k::w::r,h=>by
  simp only[xA,aN]at h;rw[Ae];cases hk:pQ k (wu c d)
  .simp only[cond_false,Ns,Xx h.2];cases hk2:pQ k (wu a b)
   .rfl
   .have:=Q7 hk2;subst this;rw[Od]at hk;have hn:¬(a=c/\b=d):=by grind
    simp only[ai hn]
  .have:=Q7 hk;subst this;simp only[cond_true,Ns,Od];by_cases h2:a=c/\b=d
   .rw[ak h2];simp[h2]
   .rw[ai h2];have:(decide (c=a)&&decide (d=b))=false:=by grind
    rw[this];rfl
end
def xq:∀a b c:av,Op.bytesLess a b=true->Op.bytesLess b c=true->Op.bytesLess a c=true
 |[],[],_,h,_=>by simp[Op.bytesLess]at h
 |[],_::_,[],_,h=>by simp[Op.bytesLess]at h
 |[],_::_,_::_,_,_=>by simp[Op.bytesLess]
 |_::_,[],_,h,_=>by simp[Op.bytesLess]at h
 |_::_,_::_,[],_,h=>by simp[Op.bytesLess]at h
 |x::a,y::b,z::c,h1,h2=>by
  have ih:=xq a b c;unfold Op.bytesLess at h1 h2⊢;have e1:=UInt8.lt_iff_toNat_lt (a:=x) (b:=y);have e2:=UInt8.lt_iff_toNat_lt (a:=y) (b:=z);have e3:=UInt8.lt_iff_toNat_lt (a:=x) (b:=z);have e4:=px (a:=x) (b:=y);have e5:=px (a:=y) (b:=z);have e6:=px (a:=x) (b:=z)
  grind
def Vz {a b c:c9}(h1:kA a b=true)(h2:kA b c=true):kA a c=true:=by
 have t1:=xq a.name b.name c.name;have t2:=xq a.feat b.feat c.feat;unfold kA at*
 grind
def Gl {w:b6}(h:fN w=true){i:Nat}(hi:1<=i):∀{j:Nat},i<j->j<w.us.length->kA w.us[i]! w.us[j]! =true
 |0,h1,_=>absurd h1 (Nat.not_lt_zero _)
 |j+1,h1,h2=>by
  have h3:kA w.us[j]! w.us[j+1]! =true:=by
   simp only[fN,aN,cb,mY]at h;have:=(h.2 (j+1) (Nat.zero_le _) h2).1.1.2;simp only[cG,eo,cK,dH,Nat.add_sub_cancel]at this;rcases this with h4|h4
   .omega
   .exact h4
  by_cases hij:i=j
  .subst hij;exact h3
  .exact Vz (Gl h hi ae ae) h3
def UI {w:b6}(h:fN w=true){a b:av}{i j:Nat}(hi:1<=i)(hij:i<j)(hj:j<w.us.length)(h1:nt a b w.us[i]! =true)(h2:nt a b w.us[j]! =true):False:=by
 have:=Gl h hi hij hj;simp only[nt,aN,bn]at h1 h2;unfold kA at this;rw[h1.1,h1.2,h2.1,h2.2,sn,sn]at this;simp at this
def ZB {us:List c9}{a b:av}:∀{n:Nat},(∀i,1<=i->i<n->nt a b us[i]! =false)->Ns (wu a b) (uH us n)=none
 |0,_=>rfl
 |n+1,h=>by
  rw[uH];split
  .rename_i h0;have h1:=h n h0 ae;rw[Xx (D7 us n),ZB (fun i h2 h3=>h i h2 ae)];simp only[nt]at h1;rw[ai (by grind)]
  .rfl
def ZC {w:b6}(hw:fN w=true){a b:av}{i:Nat}(hi:1<=i)(h:nt a b w.us[i]! =true):∀{n:Nat},i<n->n<=w.us.length->Ns (wu a b) (uH w.us n)=some (.int .i64 (i:Nat))
 |0,h1,_=>absurd h1 (Nat.not_lt_zero _)
 |n+1,h1,h2=>by
  rw[uH,ak ae,Xx (D7 _ n)];by_cases hin:i=n
  .subst hin;simp only[nt,aN,bn]at h;rw[ak ⟨h.1.symm,h.2.symm⟩]
  .have h3:=ZC hw hi h (n:=n) ae ae;have h4:nt a b w.us[n]! =false:=by
    cases hc:nt a b w.us[n]!
    .rfl
    .exact(UI hw hi ae ae h hc).elim
   simp only[nt]at h4;rw[h3,ai (by grind)]
def ai7 {w:b6}(hw:fN w=true):Vo w.us (uH w.us w.us.length):=by
 refine⟨D7 _ _,fun a b=>?_⟩;have hd:∀q,(w.us.drop 1)[q]! =w.us[1+q]! :=fun q=>by simp[List.getElem!_eq_getElem?_getD,Nat.add_comm]
 have hu:il w.us a b=fY (nt a b) (w.us.drop 1) 1:=rfl;rcases gJ (f:=nt a b) (l:=w.us.drop 1) (k:=1)with⟨h1,h2⟩|⟨j,h1,h2,h3,_⟩
 .rw[ZB (fun i h3 h4=>by have:=h2 (i-1) (by rw[j5];omega);rw[hd,show 1+(i-1)=i by omega]at this;exact this)];simp only[yv];rw[hu,h1];rfl
 .rw[hd]at h3;rw[j5]at h2;rw[ZC hw (i:=1+j) ae h3 ae (aP _)];simp only[yv];rw[hu,h1,ai ae,bz ae]
def PV {w:b6}(h:fN w=true):1<=w.us.length/\w.us.length<=48:=by
 simp only[fN,aN,bn]at h;exact h.1.1
def jT.fz (l k:Nat)(es:List Abs.D)(c:jT):iA l k es c.D=c.D:=gu l k es _ (by simp only[jT.D,D.aR,aL,gQ])
def CO:∀a b:av,Op.bytesLess a b=false->a≠b->Op.bytesLess b a=true
 |[],[],_,h=>absurd rfl h
 |[],_::_,h,_=>by simp[Op.bytesLess]at h
 |_::_,[],_,_=>by simp[Op.bytesLess]
 |x::a,y::b,h,hn=>by
  have ih:=CO a b;unfold Op.bytesLess at h⊢;have e1:=UInt8.lt_iff_toNat_lt (a:=x) (b:=y);have e2:=UInt8.lt_iff_toNat_lt (a:=y) (b:=x);have e4:=px (a:=x) (b:=y)
  grind
def xo (a:Key):eX a a=false:=by unfold eX;rw[sn,sn];simp
def Og {a b c:Key}(h1:eX a b=true)(h2:eX b c=true):eX a c=true:=by
 have t1:=xq a.n b.n c.n;have t2:=xq a.f b.f c.f;unfold eX at*
 grind
def G9 {a b:Key}(h:eX a b=false)(hn:a≠b):eX b a=true:=by
 have t1:=CO a.n b.n;have t2:=CO a.f b.f;have hk:¬(a.n=b.n/\a.f=b.f):=fun h=>hn (by cases a;cases b;simp at h;simp[h.1,h.2])
 unfold eX at*
 grind
def Xf {k:Key}(h:k≠fZ):eX fZ k=true:=by
 refine G9 ?_ h;unfold eX fZ;cases k with
 |mk n f=>cases n<;>cases f<;>simp[Op.bytesLess]
def KS (l:List Key):Prop:=l.Pairwise fun a b=>eX a b=true
def qW {α:Type}{p:α->Bool}:∀(l:List α),∀x∈l.take (l.takeWhile p).length,p x=true
 |[],x,h=>by simp at h
 |a::r,x,h=>by
  rw[List.takeWhile_cons]at h;split at h
  .rename_i ha;simp only[bE,List.take_succ_cons,b9]at h;rcases h with rfl|h
   .exact ha
   .exact qW r x h
  .simp at h
def wq {α:Type} [Inhabited α]{p:α->Bool}:∀(l:List α),(l.takeWhile p).length<l.length->p l[(l.takeWhile p).length]! =false
 |[],h=>by simp at h
 |a::r,h=>by
  rw[List.takeWhile_cons]at h⊢;split
  .rename_i ha;rw[ak ha]at h;simp only[bE]at h⊢;have:=wq (p:=p) r ae;simpa using this
  .rename_i ha;simpa using ha
def Lb {α:Type} [Inhabited α]{lt:α->α->Prop}{p:α->Bool}{l:List α}{k:α}(htr:∀a b c,lt a b->lt b c->lt a c)(hl:l.Pairwise lt)(h1:∀x∈l,p x=true->lt x k)(h2:∀x∈l,p x=false->lt k x):
  ((l.take (l.takeWhile p).length++[k])++l.drop (l.takeWhile p).length).Pairwise lt:=by
 have hs:(l.take (l.takeWhile p).length++l.drop (l.takeWhile p).length).Pairwise lt:=by rw[List.take_append_drop];exact hl
 rw[List.pairwise_append]at hs;obtain⟨g1,g2,g3⟩:=hs;have e1:∀x∈l.take (l.takeWhile p).length,lt x k:=fun x hx=>h1 x (zG hx) (qW l x hx)
 have e2:∀x∈l.drop (l.takeWhile p).length,lt k x:=by
  rcases eh (l.takeWhile p).length l.length with h|h
  .have hd:=wq l h;have hlt:=h2 _ (aq h) hd;rw[eV h]at g2⊢;rw[show l[(l.takeWhile p).length]=l[(l.takeWhile p).length]! by simp[h]]at g2⊢;intro x hx;rcases b9.1 hx with rfl|hx
   .exact hlt
   .exact htr _ _ _ hlt ((List.pairwise_cons.1 g2).1 x hx)
  .rw[j4 h];intro x hx;cases hx
 rw[List.pairwise_append,List.pairwise_append];refine⟨⟨g1,List.pairwise_singleton _ _,fun a ha b hb=>?_⟩,g2,fun a ha b hb=>?_⟩
 .rw[aC.1 hb];exact e1 a ha
 .rcases List.mem_append.1 ha with ha|ha
  .exact htr _ _ _ (e1 a ha) (e2 b hb)
  .rw[aC.1 ha];exact e2 b hb
def T4 {l:List Key}{k:Key}(hl:KS l):KS (sD l k):=by
 unfold sD;split
 .exact hl
 .rename_i hn;have e:EN l k 0=(l.takeWhile fun x=>eX x k).length:=by unfold EN;rw[cT,b8]
  rw[e]at hn⊢;by_cases hk:k∈l
  ·
   exfalso;refine hn ?_;have hlt:(l.takeWhile fun x=>eX x k).length<l.length:=by
    rcases eh (l.takeWhile fun x=>eX x k).length l.length with h|h
    .exact h
    .have:=qW (p:=fun x=>eX x k) l k (by rw[eU h];exact hk);rw[xo]at this;cases this
   refine⟨hlt, ?_⟩;have hd:=wq (p:=fun x=>eX x k) l hlt;by_cases hq:l[(l.takeWhile fun x=>eX x k).length]! =k
   .exact hq
   .have h3:=G9 hd hq;have hs:(l.take (l.takeWhile fun x=>eX x k).length++l.drop (l.takeWhile fun x=>eX x k).length).Pairwise fun a b=>eX a b=true:=by rw[List.take_append_drop];exact hl
    rw[List.pairwise_append]at hs;have hk2:k∈l.take (l.takeWhile fun x=>eX x k).length\/k∈l.drop (l.takeWhile fun x=>eX x k).length:=by rw[<-List.mem_append,List.take_append_drop];exact hk
    rcases hk2 with h4|h4
    .have:=qW (p:=fun x=>eX x k) l k h4;rw[xo]at this;cases this
    .obtain⟨_,g2,_⟩:=hs;rw[eV hlt,show l[(l.takeWhile fun x=>eX x k).length]=l[(l.takeWhile fun x=>eX x k).length]! by simp[hlt]]at g2 h4;rcases b9.1 h4 with h5|h5
     .exact absurd h5.symm hq
     .have h6:=(List.pairwise_cons.1 g2).1 k h5;have:=Og h3 h6;rw[xo]at this;cases this
  .refine Lb (lt:=fun a b=>eX a b=true) (p:=fun x=>eX x k) (fun a b c h1 h2=>Og h1 h2) hl (fun x _ h=>h) (fun x hx h=>G9 h fun e=>hk (e▸hx))
def NmK (k:Key):Prop:=k=fZ\/k.n≠[]
structure KA (s:oY):Prop where
 sort:KS s.all
 nm:∀k∈s.all,NmK k
def akg {s:oY}{a:jv}(h:KA s)(ha:a.k.n≠[]):KA (me s a):=by
 have hm:=(HI s a).1;refine⟨?_,fun k hk=>?_⟩
 .unfold me;split
  .exact T4 h.sort
  .exact h.sort
 .rcases(hm k).1 hk with h1|rfl
  .exact h.nm k h1
  .exact .inr ha
def YR:∀(row:fK) (s:oY),(∀a∈row,a.k.n≠[])->KA s->KA (row.foldl me s)
 |[],s,_,h=>h
 |b::r,s,hn,h=>YR r _ (fun a ha=>hn a (.tail _ ha)) (akg h (hn b (.head _)))
def YT:∀(l:List fK) (s:oY),(∀row∈l,∀a∈row,a.k.n≠[])->KA s->KA (OY s l)
 |[],s,_,h=>h
 |b::r,s,hn,h=>YT r _ (fun row hr=>hn row (.tail _ hr)) (YR b s (hn b (.head _)) h)
def YS {y:cD}(hy:∀k,∀row∈df y k,∀a∈row,a.k.n≠[]):∀(n:Nat){s:oY}{all:List Key},KA s->Be y n s=some all->KA ⟨all,[]⟩
 |0,s,all,_,h=>by cases h
 |n+1,s,all,hI,h=>by
  rw[Be]at h;split at h
  .obtain rfl:=aW h;exact⟨hI.sort,hI.nm⟩
  .split at h
   .cases h
   .exact YS hy n (s:=Bg y s) (YT (df y s.todo[0]!) ⟨s.all,s.todo.drop 1⟩ (hy _) ⟨hI.sort,hI.nm⟩) h
def Vp (l:List fK):Prop:=∀row∈l,∀a∈row,a.k.n≠[]
def Rv {a b:List fK}(h1:Vp a)(h2:Vp b):Vp (a++b):=fun r hr=>(List.mem_append.1 hr).elim (h1 r) (h2 r)
def xD {α:Type}{f:α->List fK}{l:List α}(h:∀x∈l,Vp (f x)):Vp (l.flatMap f):=fun r hr=>by
 obtain⟨x,hx,hr⟩:=List.mem_flatMap.1 hr;exact h x hx r hr
def Hn {k:Key}{s:cy}(h:k.n≠[]):Vp [[⟨k,s⟩]]:=fun r hr b hb=>by
 rw[aC.1 hr]at hb;rw[aC.1 hb];exact h
def sy {s:av}(h:dn s=true):s≠[]:=by
 rintro rfl;revert h;decide
def Dq {r:Rec}(h:BY r):r.name≠[]:=sy h.1.1.1
def p0 {r:Rec}(h:BY r):∀n∈r.needs,∀w∈n.any,dn w.name=true:=by
 intro n hn w hw;obtain⟨⟨_,_,hp⟩,_⟩:=h;have h0:(lA r).1=0:=by grind [ef]
 obtain⟨i,hi,rfl⟩:=fU hn;have h3:=qA h0 i hi;obtain⟨j,hj,rfl⟩:=fU hw;have h4:nC r r.needs[i]!.any=0:=by grind [jz]
 have h5:=Ck h4 j hj
 grind [lj,gM]
def D9 (w:de):∀k∈eS w,k.n=w.name:=by
 intro k hk;unfold eS at hk;rcases List.mem_append.1 hk with h|h
 .split at h
  .split at h
   .rw[aC.1 h]
   .cases h
  .rw[aC.1 h]
 .obtain⟨f,_,rfl⟩:=cC.1 h;rfl
def MH {n:br}(hn:wF n)(h:∀w∈n.any,dn w.name=true):Vp (iG n):=by
 unfold iG;split
 .intro r hr a ha;obtain⟨k,hk,rfl⟩:=cC.1 hr;rw[aC.1 ha,D9 _ k hk];exact sy (h _ (aq hn.1.1))
 .intro r hr a ha;rw[aC.1 hr]at ha;obtain⟨w,hw,rfl⟩:=cC.1 ha;rw[D9 w _ (aq (ot w).1)];exact sy (h w hw)
def RB {r:Rec}(h:BY r)(e:Env)(o:av):Vp (qL r.needs e o):=xD fun n hn=>by
 unfold Bb;split
 .exact MH ((gE h).2 n hn) (p0 h n hn)
 .intro q hq;cases hq
def Yn {r:Rec}(h:BY r)(e:Env)(nm ft:av):Vp (iT r.needs e nm ft):=xD fun n hn=>by
 have hN:=(gE h).2 n hn;unfold ru;split
 .rename_i hc;refine Rv ?_ (Hn ?_)
  .split
   .intro q hq;cases hq
   .exact MH hN (p0 h n hn)
  .show nm≠[];rw[<-hc.1.2];exact sy (p0 h n hn _ (aq hN.1.1))
 .intro q hq;cases hq
def FE {r:Rec}(h:BY r)(e:Env)(ft:av):Vp (dc r e ft):=by
 unfold dc;split
 .exact RB h e []
 .refine Rv (Hn (Dq h)) (xD fun s _=>?_);unfold lZ;split
  .exact Hn (Dq h)
  .split
   .exact RB h e _
   .exact Yn h e _ _
def MI {y:cD}(hy:pC y)(k:Key):Vp (df y k):=by
 unfold df;split
 .obtain⟨⟨⟨m,hm,hM⟩,_⟩,_⟩:=hy;intro r hr a ha;rw[hm]at hr;rw[aC.1 hr]at ha;rw[aC.1 ha];exact Dq (BE hM)
 .exact xD fun x hx=>FE ((xI hy k).2 x hx).1 y.e k.f
def adv {y:cD}(hy:pC y){all:List Key}(h:mG y=some all):KS all/\∀k∈all,NmK k:=by
 have:=YS (MI hy) 49 (s:=oE) ⟨by simp[KS,oE],fun k hk=>.inl (by simpa[oE]using hk)⟩ h;exact⟨this.sort,this.nm⟩
def all_zero {all:List Key}(hs:KS all)(hz:fZ∈all):all[0]! =fZ/\0<all.length:=by
 have h0:=List.length_pos_of_mem hz;refine⟨?_,h0⟩;cases all with
 |nil=>cases hz
 |cons a r=>
  show a=fZ;rcases b9.1 hz with h|h
  .exact h.symm
  .have h1:=(List.pairwise_cons.1 hs).1 fZ h;by_cases he:a=fZ
   .exact he
   .have:=Og h1 (Xf he);rw[xo]at this;cases this
def zb {all:List Key}(hs:KS all)(hz:fZ∈all){k:Key}(hk:k≠fZ):¬eP all k=0:=by
 intro h;unfold eP at h;rcases gJ (f:=fun x=>decide (x=k)) (l:=all) (k:=0)with⟨h1,_⟩|⟨j,h1,_,h3,_⟩
 .rw[h1]at h;cases h
 .rw[h1]at h;obtain rfl:j=0:=ae;rw[(all_zero hs hz).1]at h3;exact hk (of_decide_eq_true h3).symm
def ZN:∀a∈bU,∀b∈bU,iL a b<0\/a=b\/iL b a<0:=by decide+kernel
def adY:∀a∈bU,∀b∈bU,∀c∈bU,iL a b<0->iL b c<0->iL a c<0:=by decide+kernel
def Vw (shop:List bN):Prop:=∀s∈shop,∀x∈s.es,x.r.v∈bU
def Zn {s:bN}(h:ie s=true){i j:Nat}(hij:i<j)(hj:j<s.es.length)(hn:s.es[i]!.r.name=s.es[j]!.r.name)(hv:gy s.es[j]!.r.v=true):¬s.es[i]!.r.v=s.es[j]!.r.v:=by
 intro e;simp only[ie,aN,cb,rZ,bn]at h;have h1:=(h.2 j (Nat.zero_le _) hj).2;rw[Yb]at h1;have h2:=h1 s.es[i]! (by
  have:i<(s.es.take j).length:=by rw[eg];omega
  have h3:=aq this;rw[List.getElem!_eq_getElem?_getD,List.getElem?_take_of_lt hij,<-List.getElem!_eq_getElem?_getD]at h3;exact h3)
 unfold Ld at h2;rw[bz hn,e,FJ hv]at h2;cases h2
def ltE (es:List kr)(a b:Int):Prop:=(es[a.toNat]!.r.v∈bU/\es[b.toNat]!.r.v∈bU)/\iL es[a.toNat]!.r.v es[b.toNat]!.r.v<0
def ai5 {es:List kr}(a b c:Int)(h1:ltE es a b)(h2:ltE es b c):ltE es a c:=⟨⟨h1.1.1,h2.1.2⟩,adY _ h1.1.1 _ h1.1.2 _ h2.1.2 h1.2 h2.2⟩
def vO {s:bN}(h:ie s=true)(hv:∀x∈s.es,x.r.v∈bU)(nm:av):∀i,i<=s.es.length->(eB s.es nm i).Pairwise (ltE s.es)/\∀x∈eB s.es nm i,s.es[x.toNat]!.r.name=nm
 |0,_=>⟨List.Pairwise.nil,fun x hx=>(by cases hx)⟩
 |i+1,hi=>by
  obtain⟨h1,h2⟩:=vO h hv nm i ae;rw[eB];split
  .rename_i hn;have hiv:=hv _ (aq (show i<s.es.length by omega));have hvb:gy s.es[i]!.r.v=true:=(wZ _ hiv).2;have hin:=(xr s.es nm i).2;refine⟨?_,fun x hx=>?_⟩
   .unfold G7 A4;rw[cT,b8];refine Lb (lt:=ltE s.es) ai5 h1 (fun x hx hp=>?_) (fun x hx hp=>?_)
    .have:=hin x hx;rw[bn]at hp;refine⟨⟨hv _ (aq ae), ?_⟩, ?_⟩<;>rw[Int.toNat_natCast]
     .exact hiv
     .exact hp
    .have hxr:=hin x hx;have hxv:=hv _ (aq (show x.toNat<s.es.length by omega));rw[cK]at hp;refine⟨⟨?_,hxv⟩, ?_⟩<;>rw[Int.toNat_natCast]
     .exact hiv
     .rcases ZN _ hxv _ hiv with h3|h3|h3
      .exact absurd h3 hp
      .exact absurd h3 (Zn h (show x.toNat<i by omega) ae (by rw[h2 x hx,hn]) hvb)
      .exact h3
   .rcases La hx with h3|h3
    .exact h2 x h3
    .rw[h3,Int.toNat_natCast];exact hn
  .exact⟨h1,h2⟩
def yZ {y:cD}{nm:av}{a:Nat}:∀(l:List Int),(iS y nm a l).Sublist (l.map fun i=>⟨y.shop[a]!.es[i.toNat]!.r,(a:Int)⟩)
 |[]=>List.Sublist.slnil
 |i::r=>by
  rw[iS,List.map_cons];split
  .exact(yZ r).cons₂ _
  .exact(yZ r).cons _
def RcLt (a b:uA):Prop:=iL a.r.v b.r.v<0
def TF {y:cD}(h:pC y)(hv:Vw y.shop)(nm:av):(dK y nm).Pairwise RcLt:=by
 unfold dK;split
 .exact List.pairwise_singleton _ _
 .split
  .exact List.Pairwise.nil
  .rename_i h1;have h1:(cM y.shop y.pins nm).2.2=0:=Classical.not_not.1 h1;have h2:(gp y.shop y.pins nm).2=0:=by
    unfold cM at h1;split at h1
    .rename_i h3;exact absurd h1 h3
    .rename_i h3;exact Classical.not_not.1 h3
   obtain⟨hB,j,hj,hjl⟩:=pL h2;have e1:cM y.shop y.pins nm=((j:Int),ke y.shop[j]! nm,0):=by
    unfold cM;rw[ai (fun h=>h h2),hj,Int.toNat_natCast]
   rw[e1];simp only[Int.toNat_natCast];have hs:=H7 hB hjl;have e2:ke y.shop[j]! nm=eB y.shop[j]!.es nm y.shop[j]!.es.length:=by unfold ke;rw[hs,ai aG]
   rw[e2];have h3:=(vO hs (hv _ (aq hjl)) nm _ (aP _)).1;refine List.Pairwise.sublist (yZ _) ?_;rw[List.pairwise_map];exact h3.imp fun h=>h.2
def ac5 {y:cD}(h:pC y)(hv:Vw y.shop)(k:Key):(eH y k).Pairwise RcLt:=List.Pairwise.sublist List.filter_sublist (TF h hv k.n)
def Ls {y:cD}(h:pC y)(hv:Vw y.shop)(hm:∀m∈y.l,m.r.v∈bU)(nm:av):∀x∈dK y nm,x.r.v∈bU:=by
 unfold dK;split
 .rename_i h0;intro x hx;rw[aC.1 hx];obtain⟨j,hj,hjl⟩:=(qM y.l nm).resolve_left ae;rw[hj,Int.toNat_natCast];exact hm _ (aq hjl)
 .split
  .intro x hx;cases hx
  .rename_i h1;have h1:(cM y.shop y.pins nm).2.2=0:=Classical.not_not.1 h1;have h2:(gp y.shop y.pins nm).2=0:=by
    unfold cM at h1;split at h1
    .rename_i h3;exact absurd h1 h3
    .rename_i h3;exact Classical.not_not.1 h3
   obtain⟨hB,j,hj,hjl⟩:=pL h2;have e1:cM y.shop y.pins nm=((j:Int),ke y.shop[j]! nm,0):=by
    unfold cM;rw[ai (fun h=>h h2),hj,Int.toNat_natCast]
   rw[e1];simp only[Int.toNat_natCast];intro x hx;obtain⟨⟨i,hi,e⟩,_⟩:=(pT (y:=y) (nm:=nm) (a:=j) _).2 x hx;have:=(su y.shop[j]! nm).2 i hi;rw[e];exact hv _ (aq hjl) _ (aq ae)
def Vx (n:Nat)(w:Want):Prop:=(0<w.u/\w.u<(n:Int))/\wc w.s=true
def Gn {n:Nat}{l:List Want}(h:∀w∈l,Vx n w):pn (n:Int) l=true:=by
 unfold pn;rw[cb];intro j _ hj;obtain⟨⟨h1,h2⟩,h3⟩:=h _ (aq hj);unfold sT;rw[bz h1,bz h2,h3];rfl
def KK {n:Nat}{c:ei}(h1:c.needs.length<=24)(h2:c.bars.length<=24)(h3:∀r∈c.needs,(0<r.length/\r.length<=24)/\∀w∈r,Vx n w)(h4:∀w∈c.bars,Vx n w):mM (n:Int) c=true:=by
 unfold mM;rw[bz h1,bz h2,Gn h4,gQ,fT,fT,cb];intro j _ hj;obtain⟨⟨h5,h6⟩,h7⟩:=h3 _ (aq hj);unfold rB;rw[Gn h7,bz h5,bz h6];rfl
def adJ {s:cy}{v:bZ}(hv:v∈bU)(h:s∈gT\/s=er v):wc s=true:=by
 rcases h with h|rfl
 .exact MP _ h
 .exact(wZ v hv).1
structure qp (y:cD):Prop where
 p:pC y
 v:Vw y.shop
 m:∀m∈y.l,m.r.v∈bU
def Hi {k:Key}(h:k.n≠[]):k≠fZ:=fun e=>h (by rw[e];rfl)
def VT {y:cD}{all:List Key}{k:Key}{x:uA}(hx:BY x.r)(hxv:x.r.v∈bU)(hz:fZ∈all)(hs:KS all)(hcl:∀row∈dc x.r y.e k.f,∀a∈row,a.k∈all)(hw:ou (dX y all k x)=false):mM (all.length:Int) (dX y all k x)=true:=by
 have hC:=QK hx hcl hw;have h1:=C3 x.r y.e k.f;have hnm:=FE hx y.e k.f;refine KK hC.1.2.1 hC.1.2.2 (fun r hr=>?_) (fun w hwb=>?_)
 .have h2:=hC.2.1 r hr;refine⟨ae,fun w hwr=>?_⟩;have h3:=h2.2 w hwr;obtain⟨q,hq,rfl⟩:=qc hr;obtain⟨a,ha,rfl⟩:=cC.1 hwr;have h4:=zb hs hz (Hi (hnm q hq a ha));dsimp only at h3⊢;exact⟨⟨mw,h3.2⟩,adJ hxv (h1 q hq a ha)⟩
 .have h3:=hC.2.2 w hwb;have hwb:w∈(if k.f=[]then wN all x.r y.e else []):=hwb;split at hwb
  .obtain⟨b,hb,hwb2⟩:=List.mem_flatMap.1 hwb;unfold qq at hwb2;split at hwb2
   .rw[aC.1 hwb2]at h3⊢;have hbn:b.name≠[]:=by
     obtain⟨⟨_,_,hp⟩,_⟩:=hx;have h0:(uN x.r).1=0:=by grind [ef]
     obtain⟨i,hi,rfl⟩:=fU hb;have h5:=qA h0 i hi;have h6:dn x.r.bars[i]!.name=true:=by grind [rR,gM]
     exact sy h6
    have h4:=zb hs hz (Hi (k:=⟨b.name,[]⟩) hbn);dsimp only at h3;exact⟨⟨mw,h3.2⟩,adF _⟩
   .cases hwb2
  .cases hwb
def S7 {y:cD}{all:List Key}{k:Key}(hy:qp y)(hz:fZ∈all)(hs:KS all)(hcl:∀row∈df y k,∀a∈row,a.k∈all)(h:(fE y all k).2=true):
  (k=fZ->(fE y all k).1.length=1)/\∀i,i<(fE y all k).1.length->oG all.length (fE y all k).1 i=true:=by
 have hC:=yJ hy.p hcl h;unfold fE at*
 by_cases hk:k=fZ
 .rw[ak hk]at hC⊢;refine⟨fun _=>rfl,fun i hi=>?_⟩;obtain rfl:i=0:=by simpa using hi
  have hrow:df y k=eC y.l:=by unfold df;rw[ak hk]
  have hnm:=MI hy.p k;rw[hrow]at hcl hnm;obtain⟨⟨hsm,h24,hb24⟩,hn,hb⟩:=hC.2 _ (.head _);unfold oG;show(gy zV&&mM (all.length:Int) ⟨zV,-1,dL all (eC y.l),[]⟩&& !(decide (0<0)&&_))=true;rw[show gy zV=true by decide,KK h24 hb24 (fun r hr=>?_) (fun w hw=>by cases hw)]
  .rfl
  .have h2:=hn r hr;refine⟨ae,fun w hwr=>?_⟩;have h3:=h2.2 w hwr;obtain⟨q,hq,rfl⟩:=qc hr;obtain⟨a,ha,rfl⟩:=cC.1 hwr;have h4:=zb hs hz (Hi (hnm q hq a ha));refine⟨⟨by dsimp only at h3⊢;omega,h3.2⟩, ?_⟩;obtain⟨⟨⟨m,hm,hM⟩,_⟩,_⟩:=hy.p;have hmv:=hy.m m (by rw[hm];simp);rw[hm]at hq;rw[aC.1 hq]at ha;rw[aC.1 ha];exact(wZ _ hmv).1
 .rw[ai hk]at h⊢;refine⟨fun e=>absurd e hk, ?_⟩;have hrow:df y k=(eH y k).flatMap fun x=>dc x.r y.e k.f:=by unfold df;rw[ai hk]
  rw[hrow]at hcl;split at h
  .cases h
  .rename_i hw;rw[ai hw];intro i hi;dsimp only at hi⊢;have hi2:i<(eH y k).length:=by simpa using hi
   have e:((eH y k).map (dX y all k))[i]! =dX y all k (eH y k)[i]! :=gI hi2;have hx:=aq hi2;have hlk:(eH y k)[i]! ∈dK y k.n:=(List.mem_filter.1 hx).1;have hv:=Ls hy.p hy.v hy.m k.n _ hlk;have hcw:ou (dX y all k (eH y k)[i]!)=false:=by
    cases hq:ou (dX y all k (eH y k)[i]!)with
    |false=>rfl
    |true=>exact absurd (List.any_eq_true.2 ⟨_,cC.2 ⟨_,hx,rfl⟩,hq⟩) hw
   unfold oG;rw[e,VT ((xI hy.p k).2 _ hx).1 hv hz hs (fun row hr a ha=>hcl row (List.mem_flatMap.2 ⟨_,hx,hr⟩) a ha) hcw];rw[show gy (dX y all k (eH y k)[i]!).v=true from(wZ _ hv).2,fT,fT,cG];by_cases h0:0<i
   .rw[gI (show i-1<(eH y k).length by omega)];have hp:=List.pairwise_iff_getElem.1 (ac5 hy.p hy.v k) (i-1) i ae hi2 ae;unfold RcLt at hp;rw[<-getElem!_pos (eH y k) (i-1) ae,<-getElem!_pos (eH y k) i hi2]at hp;have hq:¬0<=iL (dX y all k (eH y k)[i-1]!).v (dX y all k (eH y k)[i]!).v:=by
     have:iL (dX y all k (eH y k)[i-1]!).v (dX y all k (eH y k)[i]!).v=iL (eH y k)[i-1]!.r.v (eH y k)[i]!.r.v:=rfl;omega
    rw[bI hq,Bool.and_false]
   .rw[bI h0,Bool.false_and]
def PW {y:cD}(hy:qp y)(h:(fO y).2=true):fN (fO y).1=true:=by
 obtain⟨all,hr,hus,hc,hB⟩:=Eg hy.p h;obtain⟨hz,h48,hcl⟩:=Ds hr;obtain⟨hs,hnm⟩:=adv hy.p hr;obtain⟨h0,hpos⟩:=all_zero hs hz;have hl:(fO y).1.us.length=all.length:=by rw[hus,bj]
 have hat:∀i,i<all.length->(fO y).1.us[i]! =sQ y all all[i]! :=fun i hi=>by rw[hus,gI hi]
 have hcv:∀i,i<all.length->_:=fun i hi=>S7 hy hz hs (hcl _ (aq hi)) (hc i hi)
 unfold fN;rw[hl,bz (show 1<=all.length by omega),bz h48,fT,fT,aN];constructor
 .unfold xl;rw[hat 0 hpos,h0];have:=(hcv 0 hpos).1 h0;rw[h0]at this;show(decide (([]:av)=[])&&decide (([]:av)=[])&&decide ((fE y all fZ).1.length=1))=true;rw[bz this];rfl
 .rw[cb];intro i _ hi;unfold mY;rw[hat i hi];have h16:=(yJ hy.p (hcl _ (aq hi)) (hc i hi)).1;have hlen:(fO y).1.us.length=all.length:=hl;rw[aN,aN,aN];refine⟨⟨⟨?_, ?_⟩,bz h16⟩, ?_⟩
  .by_cases hi0:0<i
   .have:all[i]!.n≠[]:=by
     rcases hnm _ (aq hi)with e|e
     .exfalso;have:=List.pairwise_iff_getElem.1 hs 0 i hpos hi hi0;rw[<-getElem!_pos all 0 hpos,<-getElem!_pos all i hi,h0,e,xo]at this;cases this
     .exact e
    show(!(decide (0<i)&&decide (all[i]!.n=[])))=true;rw[bI this,Bool.and_false];rfl
   .rw[bI hi0];rfl
  .by_cases hi1:1<i
   .rw[hat (i-1) ae];have:=List.pairwise_iff_getElem.1 hs (i-1) i ae hi ae;rw[<-getElem!_pos all (i-1) ae,<-getElem!_pos all i hi]at this;have e:kA (sQ y all all[i-1]!) (sQ y all all[i]!)=true:=this;rw[e];simp
   .rw[bI hi1];rfl
  .rw[cb,hlen];intro j _ hj;exact(hcv i hi).2 j hj
section
structure wD (w:b6)(c:List Int):Prop where
 l:c.length=w.us.length
 z:c[0]! =0
 f:∀i,i<w.us.length->-1<=c[i]! /\c[i]! <(w.us[i]!.cands.length:Int)
def MM {c:List Int}{j i:Nat}{v:Int}(hj:j<c.length):(c.set j v)[i]! =if i=j then v else c[i]! :=by
 simp only[List.getElem!_eq_getElem?_getD,List.getElem?_set]
 grind
def wD.set {w:b6}{c:List Int}{j k:Nat}(h:wD w c)(h1:1<=j)(hj:j<w.us.length)(hk:k<w.us[j]!.cands.length):wD w (c.set j (k:Int)):=by
 have hl:j<c.length:=by have:=h.l;omega
 refine⟨by rw[List.length_set,h.l],by rw[MM hl,ai ae];exact h.z,fun i hi=>?_⟩;rw[MM hl];split
 .rename_i e;subst e;omega
 .exact h.f i hi
def Ye {w:b6}{a b:av}{v:bZ}{t:Bool}{c:List Int}(h:wD w c)(h2:¬mF w.us (il w.us a b) v t<0):wD w (c.set (il w.us a b).toNat (mF w.us (il w.us a b) v t)):=by
 rcases xT (us:=w.us) (u:=il w.us a b) (v:=v) (t:=t)with h3|⟨j,k,h3,h4,h5⟩
 .omega
 .rcases yu (us:=w.us) (a:=a) (b:=b)with h6|⟨i,h6,h7,h8⟩
  .omega
  .rw[h4,h3,Int.toNat_natCast];exact h.set ae ae h5
def K2 {w:b6}{x:dm}:∀{l:List av}{c:List Int},wD w c->wD w (xe w.us x l c).2
 |[],c,h=>h
 |f::r,c,h=>by
  rw[xe];split
  .exact h
  .rename_i h2;exact K2 (Ye h h2)
def Yt {shop:List bN}{w:b6}{x:dm}{c:List Int}(h:wD w c):wD w (kN shop w.us x c).2:=by
 unfold kN;split
 .exact h
 .rename_i h2;split
  .exact h
  .exact K2 (Ye h h2)
def Lq {shop:List bN}{w:b6}:∀{l:List dm}{c:List Int},wD w c->(yX shop w.us l c).2.1=0->wD w (yX shop w.us l c).1
 |[],c,h,_=>h
 |x::r,c,h,h2=>by
  rw[yX]at h2⊢;split at h2
  .rename_i h3;exact absurd h2 h3
  .rename_i h3;rw[ai h3];exact Lq (Yt h) h2
def QH {n i:Nat}(h:i<n):(rj n n)[i]! =if 1<=i then-1 else 0:=by
 simp only[rj,List.getElem!_eq_getElem?_getD,List.getElem?_map,List.getElem?_range h]
 grind
def abB {w:b6}(h:fN w=true):wD w (rj w.us.length w.us.length):=by
 have h1:=PV h;have h0:w.us[0]!.cands.length=1:=by
  simp only[fN,xl,aN,bn]at h;exact h.1.2.2
 refine⟨te _ _,by rw[QH ae];rfl,fun i hi=>?_⟩;rw[QH hi];split
 .omega
 .have:i=0:=ae;subst this;omega
def abI {shop:List bN}{e:Env}{w:b6}{l:jT}(h:(ja shop e w l).2.1=0):fN w=true/\wD w (ja shop e w l).1:=by
 unfold ja at h⊢;split at h
 .cases h
 .rename_i h1;rw[ai h1];split at h
  .cases h
  .rename_i h2;rw[ai h2];have hw:fN w=true:=by grind
   exact⟨hw,Lq (abB hw) h⟩
def acE {w:b6}{c:List Int}(hw:fN w=true)(h:wD w c):ik w c=true:=by
 simp only[ik,xb,EI,hw,fT,aN,bn,cb];exact⟨h.l,fun i _ hi=>h.f i (by have:=h.l;omega)⟩
def UP {w:b6}{c:List Int}{f:wC}(h:f∈mq w c)(hl:c.length=w.us.length):0<=f.unit/\f.unit<(w.us.length:Int):=by
 unfold mq at h;split at h
 .cases h
 .simp only[gB,List.mem_flatMap,List.mem_range]at h;obtain⟨u,hu,h⟩:=h;split at h
  .cases h
  .simp only[A9,fF,jY,List.mem_append,List.mem_flatMap,List.mem_range]at h;have:f.unit=(u:Int):=by
    rcases h with⟨k,_,h⟩|⟨k,_,h⟩<;>split at h<;>first|(cases h;done)|(rw[aC.1 h])
   omega
def B7 (shop:List bN)(e:Env)(w:b6)(l:jT):Int×av:=
 if(ja shop e w l).2.1≠0 then(ja shop e w l).2 else if(mq w (ja shop e w l).1).length=0 then(0,[])else(35,w.us[(mq w (ja shop e w l).1)[0]!.unit.toNat]!.name)
section
variable {shop:List bN} {e:Env} {w:b6} {l:jT}
def aex (h:¬(ja shop e w l).2.1=0):B7 shop e w l=((ja shop e w l).2.1,(ja shop e w l).2.2):=by rw[B7,ak h]
def aey (h:(ja shop e w l).2.1=0)(h2:(mq w (ja shop e w l).1).length=0):B7 shop e w l=(0,[]):=by rw[B7,ai fV,ak h2]
def aez (h:(ja shop e w l).2.1=0)(h2:¬(mq w (ja shop e w l).1).length=0):B7 shop e w l=((35:Int),w.us[(mq w (ja shop e w l).1)[0]!.unit.toNat]!.name):=by rw[B7,ai fV,ai h2]
def QL (hw:w.sm)(h:(ja shop e w l).2.1=0):WrgP w (ja shop e w l).1/\ik w (ja shop e w l).1=true/\(0<(mq w (ja shop e w l).1).length->0<=(mq w (ja shop e w l).1)[0]!.unit/\(mq w (ja shop e w l).1)[0]!.unit<(w.us.length:Int)):=by
 obtain⟨h1,h2⟩:=abI h;exact⟨⟨hw,by rw[h2.z];exact Int.le_refl _⟩,acE h1 h2,fun h3=>UP (aq h3) h2.l⟩
end
end
section
def jb (us:List c9)(c:List Int)(nm:av):Nat->List av
 |0=>[]
 |i+1=>if 0<i/\((us[i]!.name=nm/\¬us[i]!.feat=[])/\0<=c[i]!)then jb us c nm i++[us[i]!.feat]else jb us c nm i
def sa (us:List c9)(c:List Int)(u:Nat):List av:=jb us c us[u]!.name us.length
def mO (shop:List bN)(us:List c9)(c:List Int)(u:Nat)(x:ei):dm×Int:=
 if x.sh=-1 then(⟨us[u]!.name,x.v,[],0,sa us c u⟩,0)else if x.sh<0\/(shop.length:Int)<=x.sh then(default,12)
 else if jI shop[x.sh.toNat]! us[u]!.name x.v<0 then(default,9)
 else(⟨us[u]!.name,x.v,shop[x.sh.toNat]!.name,shop[x.sh.toNat]!.es[(jI shop[x.sh.toNat]! us[u]!.name x.v).toNat]!.sum,sa us c u⟩,0)
def kD (us:List c9)(c:List Int)(u:Nat):ei:=us[u]!.cands[c[u]!.toNat]!
def vo (us:List c9)(c:List Int)(u:Nat):Bool:=(decide (u=0) ||decide (c[u]! <0)) ||!decide (us[u]!.feat=[])
def ek (shop:List bN)(us:List c9)(c:List Int):Nat->List dm×Int
 |0=>([],0)
 |i+1=>if(ek shop us c i).2≠0 then ek shop us c i else if vo us c i=true then ek shop us c i
  else if(mO shop us c i (kD us c i)).2≠0 then([],(mO shop us c i (kD us c i)).2)else((ek shop us c i).1++[(mO shop us c i (kD us c i)).1],0)
def Hb:jT:=⟨⟨[],[],[]⟩,[]⟩
def sr (shop:List bN)(w:b6)(c:List Int):List dm×Int:=ek shop w.us c w.us.length
def Hp (shop:List bN)(e:Env)(w:b6)(c:List Int):jT×Int:=
 if((fN w=false\/fJ shop=false)\/o8 e=false)\/ik w c=false then(Hb,1)else if ¬(mq w c).length=0 then(Hb,37)
 else if ¬(sr shop w c).2=0 then(Hb,(sr shop w c).2)else(⟨e,(sr shop w c).1⟩,0)
section
variable {shop:List bN} {us:List c9} {c:List Int} {i n:Nat}
def FA (h:¬(ek shop us c i).2=0):∀{n:Nat},i<=n->ek shop us c n=ek shop us c i
 |0,hn=>by obtain rfl:i=0:=ae
           rfl
 |n+1,hn=>by
  rcases eh n i with h1|h1
  .obtain rfl:i=n+1:=ae;rfl
  .have ih:=FA h h1;rw[ek,ak (by rw[ih];exact h),ih]
def On (h0:(ek shop us c i).2=0)(h:vo us c i=true):ek shop us c (i+1)=ek shop us c i:=by
 rw[ek,ai (fun h=>h h0),ak h]
def TE (h0:(ek shop us c i).2=0)(h:vo us c i=false){z:dm×Int}(hz:mO shop us c i (kD us c i)=z)(h2:¬z.2=0):ek shop us c (i+1)=([],z.2):=by
 subst hz;rw[ek,ai (fun h=>h h0),ai fV,ak h2]
def Fz (h0:(ek shop us c i).2=0)(h:vo us c i=false){x:dm}(hz:mO shop us c i (kD us c i)=(x,0)):ek shop us c (i+1)=((ek shop us c i).1++[x],0):=by
 rw[ek,ai (fun h=>h h0),ai fV,hz,ai (fun h=>h rfl)]
def yY:∀i,(ek shop us c i).1.length<=i
 |0=>aP _
 |i+1=>by
  have:=yY i;rw[ek];split
  .omega
  .split
   .omega
   .split
    .simp
    .rw[ct,List.length_singleton];omega
def vD (nm:av):∀i,(jb us c nm i).length<=i
 |0=>aP _
 |i+1=>by
  have:=vD nm i;rw[jb];split
  .rw[ct,List.length_singleton];omega
  .omega
def Ws {nm:av}(h:0<i/\((us[i]!.name=nm/\¬us[i]!.feat=[])/\0<=c[i]!)):jb us c nm (i+1)=jb us c nm i++[us[i]!.feat]:=by rw[jb,ak h]
def Wr {nm:av}(h:¬(0<i/\((us[i]!.name=nm/\¬us[i]!.feat=[])/\0<=c[i]!))):jb us c nm (i+1)=jb us c nm i:=by rw[jb,ai h]
end
end
section
def NB (a b:List Bool):Prop:=a.length=b.length/\∀i:Nat,i<a.length->a[i]! =true->b[i]! =true
def NB.MC (a:List Bool):NB a a:=⟨rfl,fun _ _ h=>h⟩
def NB.tr {a b c:List Bool}(h1:NB a b)(h2:NB b c):NB a c:=⟨h1.1.trans h2.1,fun i hi h=>h2.2 i (by rw[<-h1.1];exact hi) (h1.2 i hi h)⟩
def NB.eq {a b:List Bool}(h1:NB a b)(h2:NB b a):a=b:=by
 apply List.ext_getElem h1.1;intro i hi hj;have e1:=h1.2 i hi;have e2:=h2.2 i hj;rw[getElem!_pos a i hi,getElem!_pos b i hj]at*
 cases ha:a[i]<;>cases hb:b[i]<;>simp_all
def adE (a:List Bool)(j:Nat)(b:Bool):NB a (a.set j (a[j]! ||b)):=by
 refine⟨aG,fun i hi h=>?_⟩;by_cases hj:j=i
 .subst hj;rw[List.getElem!_eq_getElem?_getD,List.getElem?_set_self hi];simp[h]
 .rw[List.getElem!_eq_getElem?_getD,List.getElem?_set_ne hj,<-List.getElem!_eq_getElem?_getD];exact h
section
variable {w:b6} {c:List Int}
def Ro:∀(l:List Want) (is:List Bool),NB is (C1 w c is l)
 |[],is=>.MC is
 |x::r,is=>(adE is x.u.toNat (qH w c x)).tr (Ro r _)
def Rm:∀(l:List oz) (is:List Bool),NB is (A7 w c is l)
 |[],is=>.MC is
 |x::r,is=>(Ro x is).tr (Rm r _)
def acZ (i:Nat)(is:List Bool):NB is (TL w c i is):=by
 unfold TL;split
 .exact Rm _ _
 .exact .MC is
def Rl:∀(n:Nat) (is:List Bool),NB is (oD w c n is)
 |0,is=>.MC is
 |n+1,is=>(Rl n is).tr (acZ n _)
def Hk:∀(n:Nat) (is:List Bool),NB is (sz w c n is)
 |0,is=>.MC is
 |n+1,is=>(Hk n is).tr (Rl _ _)
end
def ad0 {w:b6}{c:List Int}(h:ik w c=true):mq w c=[]↔∀u,u<c.length->0<=c[u]! ->(∀k,k<(aY w c u).needs.length->E6 w c (aY w c u).needs[k]! =true)/\∀k,k<(aY w c u).bars.length->qH w c (aY w c u).bars[k]! =false:=by
 unfold mq;rw[ai ju,gB,List.flatMap_eq_nil_iff];constructor
 .intro g u hu h0;have g1:=g u (List.mem_range.2 hu);rw[ai ae,A9,List.append_eq_nil_iff,fF,jY,List.flatMap_eq_nil_iff,List.flatMap_eq_nil_iff]at g1;refine⟨fun k hk=>?_,fun k hk=>?_⟩
  .have:=g1.1 k (List.mem_range.2 hk);split at this
   .assumption
   .cases this
  .have:=g1.2 k (List.mem_range.2 hk);split at this
   .cases this
   .rename_i hn;simpa using hn
 .intro g u hu;have hu:=List.mem_range.1 hu;split
  .rfl
  .rename_i h0;obtain⟨g1,g2⟩:=g u hu ae;rw[A9,List.append_eq_nil_iff,fF,jY,List.flatMap_eq_nil_iff,List.flatMap_eq_nil_iff];refine⟨fun k hk=>?_,fun k hk=>?_⟩
   .rw[ak (g1 k (List.mem_range.1 hk))]
   .rw[ai (by rw[g2 k (List.mem_range.1 hk)];simp)]
def C2 {w:b6}{c:List Int}(h:ik w c=true):(gX w c).length=c.length:=by
 unfold gX;rw[ai ju,<-(Hk (w:=w) (c:=c) c.length (nu c)).1];simp[nu]
def adT {w:b6}{c:List Int}(h:ik w c=true){i:Nat}(hi:i<c.length):(Gj w c)[i]! =if(gX w c)[i]! =true then c[i]! else-1:=by
 have hl:=C2 h;unfold Gj tidV;simp[hl,hi]
def InW (w:b6):Prop:=∀u∈w.us,∀c∈u.cands,(∀r∈c.needs,∀x∈r,0<=x.u/\x.u<(w.us.length:Int))/\∀x∈c.bars,0<=x.u/\x.u<(w.us.length:Int)
end
section
def abi {ns:List av}{nm:av}{i:Nat}(h:i<ns.length)(e:ns[i]! =nm):eL ns nm=ns:=by
 unfold eL;rw[ak (by rw[<-e];exact aq h)]
def Vy {ns:List av}{nm:av}(h:∀j,j<ns.length->ns[j]! ≠nm):eL ns nm=ns++[nm]:=by
 unfold eL;rw[ai];intro hm;obtain⟨j,hj,e⟩:=List.getElem_of_mem hm;exact h j hj (by simpa[hj]using e)
section
variable {m:List (Nat×bm)} {lf j k:Nat} {a b c d X:List Sh} {r:List (List Sh)} {ds:List D}
def GW {l n:Nat}{es:List D}(h:look m l=some (.buf 1 es))(hn:es.length=n):((aH m l).drop 0).take n=es:=by
 simp only[aH,h,cT];rw[<-hn,List.take_length]
def aii (y:cD)(ns:List av)(h:BU y lf j k ns m):xC m (.pt [.sl 1 [.a],.sl 1 [.sl 10 X]]) (.ptr lf 2 0 0)=fdR y ns:=by
 obtain⟨h1,h2,h3⟩:=h;have e1:aH m lf=[eF j k ns.length]:=by simp only[aH,h1]
 have e2:=GW h2 (bj ..);have e3:=GW h3 (zm y ns);show D.ref 2 ((aH m lf).map _) 0 0=_;rw[e1];show D.ref 2 [D.agg [xC m (.sl 1 [.a]) (.own j 1 0 ns.length),xC m (.sl 1 [.sl 10 X]) (.own k 1 0 ns.length)]] 0 0=_;rw[show xC m (.sl 1 [.a]) (.own j 1 0 ns.length)=.sl 1 (ns.map D.str)from by simp only[xC];rw[e2,List.map_map];exact aw (D.sl 1) (List.map_congr_left fun _ _=>rfl),
  show xC m (.sl 1 [.sl 10 X]) (.own k 1 0 ns.length)=.sl 1 (dk y ns)from by simp only[xC];rw[e3,dk,List.map_map];exact aw (D.sl 1) (List.map_congr_left fun _ _=>rfl)]
 rfl
def ad4 (y:cD)(ns:List av)(h:BU y lf j k ns m):jf m ([.sl 11 a,.sl 2 b,.a,.a,.a,.sl 6 c,.sl 2 d,.pt [.sl 1 [.a],.sl 1 [.sl 10 X]]]::r) (cD.D y (.ptr lf 2 0 0)::ds)=cD.D y (fdR y ns)::jf m r ds:=by
 rw[jf];congr 1;show D.agg [_,_,_,_,_,_,_,xC m (.pt [.sl 1 [.a],.sl 1 [.sl 10 X]]) (.ptr lf 2 0 0)]=_;rw[aii y ns h];rfl
def ach (y:cD)(ns:List av)(h:BU y lf j k ns m):UX m (.pt [.sl 1 [.a],.sl 1 [.sl 10 X]]) (.ptr lf 2 0 0):=by
 obtain⟨h1,h2,h3⟩:=h;have e1:aH m lf=[eF j k ns.length]:=by simp only[aH,h1]
 have e2:=GW h2 (bj ..);have e3:=GW h3 (zm y ns);refine⟨by simp only[dW,h1];exact⟨trivial,Nat.zero_le _⟩, ?_⟩;rw[e1];intro e he;obtain rfl:=aC.1 he;show UX m (.sl 1 [.a]) (.own j 1 0 ns.length)/\UX m (.sl 1 [.sl 10 X]) (.own k 1 0 ns.length)/\aL []=true;refine⟨⟨by simp only[dW,h2];exact⟨trivial,aG⟩, ?_⟩,⟨by simp only[dW,h3];exact⟨trivial,by rw[zm];omega⟩, ?_⟩,rfl⟩
 .rw[e2];intro e he;obtain⟨_,_,rfl⟩:=cC.1 he;exact rfl
 .rw[e3];intro e he;obtain⟨_,_,rfl⟩:=cC.1 he;exact rfl
def ZZ (y:cD)(ns:List av)(h:BU y lf j k ns m)(hr:iU m r ds):iU m ([.sl 11 a,.sl 2 b,.a,.a,.a,.sl 6 c,.sl 2 d,.pt [.sl 1 [.a],.sl 1 [.sl 10 X]]]::r) (cD.D y (.ptr lf 2 0 0)::ds):=by
 rw[iU];refine⟨?_,hr⟩;show _/\_/\_/\_/\_/\_/\_/\UX m (.pt [.sl 1 [.a],.sl 1 [.sl 10 X]]) (.ptr lf 2 0 0)/\_;exact⟨rfl,rfl,rfl,rfl,rfl,rfl,rfl,ach y ns h,rfl⟩
end
def ofT_y {l:List uA}{ft:av}{i:Nat}(h:i<l.length)(hc:ft=[]\/isF l[i]!.r.feats ft=true):(l.take i).filter (XM ft)++[l[i]!]=(l.take (i+1)).filter (XM ft):=by
 rw[Fs h,ak];unfold XM;rcases hc with h|h
 .rw[bz h];rfl
 .rw[h,Bool.or_true]
def ofT_n {l:List uA}{ft:av}{i:Nat}(h:i<l.length)(hc:¬ft=[]/\isF l[i]!.r.feats ft=false):(l.take i).filter (XM ft)=(l.take (i+1)).filter (XM ft):=by
 rw[Fs h,ai,gD];unfold XM;rw[bI hc.1,hc.2];simp
def Sr {y:cD}(h:pC y):y.l.length<=1000:=by
 obtain⟨⟨⟨m,hm,_⟩,_⟩,_⟩:=h;rw[hm];simp
def R4 {y:cD}{k:Key}(h:k=fZ):df y k=eC y.l:=by unfold df;rw[ak h]
def R3 {y:cD}{k:Key}(h:¬k=fZ):df y k=(eH y k).flatMap fun x=>dc x.r y.e k.f:=by unfold df;rw[ai h]
def Xd {ns:List av}{k:Key}(h:k=fZ):jo ns k=ns:=by unfold jo;rw[ak h]
def Oe {ns:List av}{k:Key}(h:¬k=fZ):jo ns k=eL ns k.n:=by unfold jo;rw[ai h]
def aeY {y:cD}(hy:qp y){k:Key}{i:Nat}(h:i<(eH y k).length):BY (eH y k)[i]!.r/\(eH y k)[i]!.r.v∈bU:=by
 have hx:=aq h;exact⟨((xI hy.p k).2 _ hx).1,Ls hy.p hy.v hy.m k.n _ (List.mem_filter.1 hx).1⟩
def BS (l k:Nat)(es:List Abs.D)(y:cD)(a b c d:Nat):iA l k es (cD.D y (.ptr a b c d))=cD.D y (iA l k es (.ptr a b c d)):=rfl
def nj (l k:Nat)(es:List Abs.D)(ns:List av):lg l k es (ns.map D.str)=ns.map D.str:=jE l k es _ (Ia ns)
def nd (l k:Nat)(es:List Abs.D)(y:cD)(ns:List av):lg l k es (dk y ns)=dk y ns:=jE l k es _ (jg y ns)
def qO (y:cD):D:=match mG y with
 |none=>.tup [.sl 2 [],.bool false]
 |some all=>.tup [.sl 2 (all.map Key.D),.bool true]
def Bf (b:List Key)(o c:Nat)(l:List Key):Prop:=c=l.length/\b.drop o=l/\o+c=b.length
structure RcS where
 n:Nat
 s:oY
 b:List Key
 o:Nat
 c:Nat
 nn:List av
structure RcT where
 i:Nat
 t:oY
 b:List Key
 o:Nat
 c:Nat
structure RcU where
 j:Nat
 u:oY
 b:List Key
 o:Nat
 c:Nat
def SV (y:cD)(ns:List av)(p:RcS):Prop:=(p.n<=48/\SW y p.s/\p.n+p.s.todo.length=p.s.all.length)/\(p.nn.length<=ns.length+p.n/\mG y=Be y (49-p.n) p.s/\sG y 49 oE ns=sG y (49-p.n) p.s p.nn)/\Bf p.b p.o p.c p.s.todo
def SX (y:cD)(s:oY)(p:RcT):Prop:=p.i<=(df y s.todo[0]!).length/\p.t=OY ⟨s.all,s.todo.drop 1⟩ ((df y s.todo[0]!).take p.i)/\Bf p.b p.o p.c p.t.todo/\p.t.all.length+p.t.todo.length<=96+6*p.i
def NG (row:fK)(t:oY)(i:Nat)(p:RcU):Prop:=p.j<=row.length/\p.u=(row.take p.j).foldl me t/\Bf p.b p.o p.c p.u.todo/\p.u.all.length+p.u.todo.length<=96+6*i+2*p.j
def aki (y:cD)(ns:List av):SV y ns ⟨0,oE,[fZ],0,1,ns⟩:=⟨⟨aG,YQ y,rfl⟩,⟨aP _,rfl,rfl⟩,rfl,rfl,rfl⟩
def agT {b l:List Key}{o:Nat}(h:b.drop o=l)(h0:0<l.length):b[o+0]! =l[0]! :=by
 subst h;rw[j5]at h0;simp
def agS {b l:List Key}{o c:Nat}(h1:c=l.length)(h2:b.drop o=l)(k:Key):((b.map Key.D).drop o).take c++[Key.D k]=(l++[k]).map Key.D:=by
 rw[<-List.map_drop,h2,h1,Gi,List.map_append];rfl
def agU (l:List Key){c:Nat}(h:c=l.length)(k:Key):Bf (l++[k]) 0 (c+1) (l++[k]):=⟨fV,rfl,fV⟩
def akB (y:cD){s:oY}{b:List Key}{o c:Nat}(h1:c=s.todo.length)(h2:b.drop o=s.todo)(h3:o+c=b.length)(h0:0<s.todo.length)(h48:s.all.length<=48)(hle:s.todo.length<=s.all.length):SX y s ⟨0,⟨s.all,s.todo.drop 1⟩,b,o+1,c-1⟩:=by
 refine⟨Nat.zero_le _,rfl,⟨?_, ?_, ?_⟩, ?_⟩
 .simp only[j5];omega
 .simp only;rw[<-h2,List.drop_drop]
 .simp only;omega
 .simp only[j5];omega
def akG (row:fK){t:oY}{i:Nat}{b:List Key}{o c:Nat}(h1:c=t.todo.length)(h2:b.drop o=t.todo)(h3:o+c=b.length)(h:t.all.length+t.todo.length<=96+6*i):NG row t i ⟨0,t,b,o,c⟩:=⟨Nat.zero_le _,rfl,⟨h1,h2,h3⟩,rh⟩
def UE {α:Type} [Inhabited α]{l:List α}{i:Nat}(h:i<l.length):l.take (i+1)=l.take i++[l[i]!]:=by
 rw[List.take_add_one,List.getElem?_eq_getElem h];simp[h]
def QY {row:fK}{t:oY}{j:Nat}(h:j<row.length):(row.take (j+1)).foldl me t=me ((row.take j).foldl me t) row[j]! :=by
 have e:row.take (j+1)=row.take j++[row[j]!]:=by
  rw[List.take_add_one,List.getElem?_eq_getElem h];simp[h]
 rw[e,List.foldl_append];rfl
def ado (l:List Key)(k:Key):(sD l k).length<=l.length+1:=by
 rcases Dg l k with⟨h,_⟩|⟨h,_⟩
 .rw[h];omega
 .omega
def akI {row:fK}{t u:oY}{i j:Nat}{b:List Key}{o c:Nat}(h:NG row t i ⟨j,u,b,o,c⟩)(hj:j<row.length)(hc:u.all.length<(sD u.all row[j]!.k).length):NG row t i ⟨j+1,⟨sD u.all row[j]!.k,u.todo++[row[j]!.k]⟩,u.todo++[row[j]!.k],0,c+1⟩:=by
 obtain⟨h1,h2,⟨h3,_⟩,h4⟩:=h;simp only at h1 h2 h3 h4;have:=ado u.all row[j]!.k;refine⟨hj, ?_,agU _ h3 _, ?_⟩
 .simp only;rw[QY hj,<-h2,me,ak hc]
 .simp only[ct,List.length_singleton];omega
def akH {row:fK}{t u:oY}{i j:Nat}{b:List Key}{o c:Nat}(h:NG row t i ⟨j,u,b,o,c⟩)(hj:j<row.length)(hc:¬u.all.length<(sD u.all row[j]!.k).length):NG row t i ⟨j+1,u,b,o,c⟩:=by
 obtain⟨h1,h2,h3,h4⟩:=h;simp only at h1 h2 h3 h4;refine⟨hj, ?_,h3,rh⟩;simp only;rw[QY hj,<-h2,me,ai hc]
def akC {y:cD}{s t u:oY}{i j:Nat}{b1 b2:List Key}{o1 c1 o2 c2:Nat}(h:SX y s ⟨i,t,b1,o1,c1⟩)(hU:NG (df y s.todo[0]!)[i]! t i ⟨j,u,b2,o2,c2⟩)(hi:i<(df y s.todo[0]!).length)(hj:(df y s.todo[0]!)[i]!.length<=j)(hr:(df y s.todo[0]!)[i]!.length<=3):SX y s ⟨i+1,u,b2,o2,c2⟩:=by
 obtain⟨h1,h2,_,h4⟩:=h;obtain⟨g1,g2,g3,g4⟩:=hU;simp only at h1 h2 h4 g1 g2 g3 g4;refine⟨hi, ?_,g3,rh⟩;have e:=UE hi;simp only;rw[e,OY,List.foldl_append,g2,eU hj,h2];rfl
def akj {y:cD}{ns nn:List av}{n i:Nat}{s t:oY}{b b1:List Key}{o c o1 c1:Nat}(h:SV y ns ⟨n,s,b,o,c,nn⟩)(hT:SX y s ⟨i,t,b1,o1,c1⟩)(h0:0<s.todo.length)(hi:(df y s.todo[0]!).length<=i)(h48:¬48<t.all.length):SV y ns ⟨n+1,t,b1,o1,c1,jo nn s.todo[0]!⟩:=by
 obtain⟨⟨p1,p2,p3⟩,⟨q1,q2,q3⟩,_⟩:=h;obtain⟨_,t2,t3,_⟩:=hT;simp only at p1 p2 p3 q1 q2 q3 t2 t3;rw[eU hi]at t2;have t2:t=Bg y s:=t2;have hl:=(RS y h0).1.len;rw[<-t2]at hl;simp only[j5]at hl;have h6:=p2.len.2;have e:49-n=(49-(n+1))+1:=ae;have hk:=CM nn s.todo[0]!;refine⟨⟨rh,t2▸YU p2 h0 (by rw[<-t2];omega),rh⟩,⟨rh, ?_, ?_⟩,t3⟩
 .simp only;rw[q2,e,Be,ai ae,ai (by rw[<-t2];exact h48),t2]
 .simp only;rw[q3,e,sG,ai ae,ai (by rw[<-t2];exact h48),t2]
def Dr {y:cD}{ns nn:List av}{n i:Nat}{s t:oY}{b b1:List Key}{o c o1 c1:Nat}(h:SV y ns ⟨n,s,b,o,c,nn⟩)(hT:SX y s ⟨i,t,b1,o1,c1⟩)(h0:0<s.todo.length)(hi:(df y s.todo[0]!).length<=i)(h48:48<t.all.length):qO y=.tup [.sl 2 [],.bool false]/\sG y 49 oE ns=jo nn s.todo[0]! :=by
 obtain⟨⟨p1,p2,p3⟩,⟨q1,q2,q3⟩,_⟩:=h;obtain⟨_,t2,_⟩:=hT;simp only at p1 p2 p3 q1 q2 q3 t2;rw[eU hi]at t2;have t2:t=Bg y s:=t2;have e:49-n=(49-(n+1))+1:=ae;constructor
 .unfold qO;rw[q2,e,Be,ai ae,ak (by rw[<-t2];exact h48)]
 .rw[q3,e,sG,ai ae,ak (by rw[<-t2];exact h48)]
def zk {y:cD}{ns nn:List av}{n:Nat}{s:oY}{b:List Key}{o c:Nat}(h:SV y ns ⟨n,s,b,o,c,nn⟩)(h0:s.todo.length=0):qO y=.tup [.sl 2 (s.all.map Key.D),.bool true]/\sG y 49 oE ns=nn:=by
 obtain⟨⟨p1,p2,p3⟩,⟨q1,q2,q3⟩,_⟩:=h;simp only at p1 q2 q3;have e:49-n=(49-(n+1))+1:=ae;constructor
 .unfold qO;rw[q2,e,Be,ak h0]
 .rw[q3,e,sG,ak h0]
def Bi (w:b6)(c:List Int)(i:Nat):List Int:=(List.range i).map fun i=>if(gX w c)[i]! =true then c[i]! else-1
def Zw (w:b6)(c:List Int)(i:Nat):(Bi w c i).length<=i:=by unfold Bi;rw[bj,List.length_range];omega
def akA {w:b6}{c:List Int}{i:Nat}(h:(gX w c)[i]! =true):Bi w c i++[c[i]!]=Bi w c (i+1):=by
 unfold Bi;rw[List.range_succ,List.map_append,List.map_singleton,ak h]
def akz {w:b6}{c:List Int}{i:Nat}(h:(gX w c)[i]! =false):Bi w c i++[-1]=Bi w c (i+1):=by
 unfold Bi;rw[List.range_succ,List.map_append,List.map_singleton,ai ju]
def Lz (w:b6)(c:List Int):(gX w c).length<=c.length:=by
 cases h:ik w c with
 |true=>exact Nat.le_of_eq (C2 h)
 |false=>unfold gX;rw[ak h];exact Nat.zero_le _
end
section
section
variable {y:cD} {all:List Key} {k:Key} {x:uA} {i:Nat}
def KN (h:k=fZ):fE y all k=([⟨zV,-1,dL all (eC y.l),[]⟩],true):=ak h
def abG (h:k.f=[]):(⟨x.r.v,x.sh,dL all (dc x.r y.e k.f),wN all x.r y.e⟩:ei)=dX y all k x:=by unfold dX;rw[ak h]
def abF (h:¬k.f=[]):(⟨x.r.v,x.sh,dL all (dc x.r y.e k.f),[]⟩:ei)=dX y all k x:=by unfold dX;rw[ai h]
def KM (h:¬k=fZ)(hi:i<(eH y k).length)(hw:24<(dX y all k (eH y k)[i]!).needs.length\/24<(dX y all k (eH y k)[i]!).bars.length):fE y all k=([],false):=by
 unfold fE;rw[ai h,ak];rw[List.any_map,List.any_eq_true];refine⟨_,aq hi, ?_⟩;show ou _=true;unfold ou;rcases hw with h|h<;>rw[bz h]<;>simp
def QJ (hi:i<(eH y k).length)(h:(((eH y k).take i).map (dX y all k)).any ou=false)(hn:¬24<(dX y all k (eH y k)[i]!).needs.length/\¬24<(dX y all k (eH y k)[i]!).bars.length):(((eH y k).take (i+1)).map (dX y all k)).any ou=false:=by
 rw[map_take hi,List.any_append,h,List.any_cons,List.any_nil];unfold ou;rw[bI hn.1,bI hn.2];rfl
def KL (h:¬k=fZ)(hw:((eH y k).map (dX y all k)).any ou=false):fE y all k=((eH y k).map (dX y all k),decide ((dK y k.n).length<=16)):=by
 unfold fE;rw[ai h,ai (by rw[hw];simp)]
def SZ (ns:List av)(nm:av):eL (eL ns nm) nm=eL ns nm:=by
 have:nm∈eL ns nm:=by
  unfold eL;split
  .assumption
  .simp
 rw[eL,ak this]
end
def rV (y:cD)(all:List Key)(k:Key):D:=.tup [.sl 8 ((fE y all k).1.map ei.D),.bool (fE y all k).2]
def NV (l k:Nat)(es:List Abs.D)(c:ei):iA l k es (ei.D c)=ei.D c:=rfl
end
end Go.Abs
section
namespace Go.Abs
variable {Y:Ctx}(hm:(Y.at 0).bR)
def iK (y:cD):List Key:=(mG y).getD []
def okY (y:cD):Bool:=(mG y).isSome
def FU (y:cD):qO y=.tup [.sl 2 ((iK y).map Key.D),.bool (okY y)]:=by
 unfold qO iK okY;cases mG y<;>rfl
def VA (y:cD):(iK y).length<=48:=by
 unfold iK;cases h:mG y with
 |none=>simp
 |some all=>exact(Ds h).2.1
section
variable {y:cD} {i:Nat}
def XN (y:cD)(i:Nat):Bool:=okY y&&(nD y (iK y) i).2
def yt (y:cD)(i:Nat):List c9:=(nD y (iK y) i).1
def XJ (y:cD)(i:Nat):List av:=ZQ (iK y) (sG y 49 oE []) i
def M6:∀i,(yt y i).length<=i
 |0=>aP _
 |i+1=>by
  have:=M6 i;unfold yt at this⊢;rw[nD];split
  .rw[ct,List.length_singleton];omega
  .omega
def ac2 (y:cD)(i:Nat):(XJ y i).length<=49+i:=by
 have h1:=Nf (iK y) (sG y 49 oE []) i;have h2:=LY y 49 oE [];unfold XJ;simp only[b7]at h2;omega
def akJ (h:XN y i=true):yt y i++[sQ y (iK y) (iK y)[i]!]=yt y (i+1):=by
 unfold XN at h;rw[aN]at h;unfold yt;rw[nD,ak h.2]
def okS_s (h:XN y i=true):(fE y (iK y) (iK y)[i]!).2=XN y (i+1):=by
 unfold XN at h⊢;rw[aN]at h;rw[nD,ak h.2,h.1];rfl
def nsS_s:jo (XJ y i) (iK y)[i]! =XJ y (i+1):=rfl
def Gr {all:List Key}(h:(nD y all i).2=false):∀n,nD y all (i+n)=nD y all i
 |0=>rfl
 |n+1=>by
  have ih:=Gr h n;rw[show i+(n+1)=(i+n)+1 from rfl,nD,ai (by rw[ih,h];simp),ih]
def UN (hi:i<=(iK y).length)(hc:¬((i:Nat):Int)<((iK y).length:Nat)\/XN y i=false):fO y=(⟨yt y i⟩,XN y i):=by
 unfold fO yt XN okY iK at*
 cases h:mG y with
 |none=>
  rw[h]at hi;have:i=0:=by simpa using hi
  subst this;rfl
 |some all=>
  rw[h]at hi hc;simp only[Option.getD_some,Option.isSome_some,fT]at hi hc⊢;rcases hc with hc|hc
  .obtain rfl:i=all.length:=ae;rfl
  .have:=Gr hc (all.length-i);rw[show i+(all.length-i)=all.length by omega]at this;rw[this]
end
def zA (y:cD):D:=.tup [b6.D (fO y).1,.bool (fO y).2]
def WldQ (y:cD):D->List (Nat×bm)->Prop:=fun d _=>d=zA y
def WldC (Y:Ctx)(n:Nat)(y:cD)(V:D):Prop:=∀(nx lf:Nat) (m:List (Nat×bm)) (K:D->St->Prop),lf<nx->look m lf=some (.buf 2 [.agg [.aJ,.aJ]])->K V ⟨nx,cQ m lf⟩->Y.tr n [cD.D y (.ptr lf 2 0 0)] ⟨nx,m⟩ K
def akK (l k:Nat)(es:List Abs.D)(u:c9):iA l k es (c9.D u)=c9.D u:=rfl
end Go.Abs
namespace Go.Abs
variable {Y:Ctx}(hm:(Y.at 0).bR)
section
variable {l:List gV} {shop:List bN} {e:Env} {ks:List Kp}
abbrev yx (l:List gV)(shop:List bN)(e:Env)(ks:List Kp):cD:=⟨l,shop,e,ks,gK l⟩
def abv (h:fJ shop=false\/o8 e=false):gY l shop e ks=(⟨[]⟩,1):=ak h
def abw {i:Nat}(h:fJ shop=true/\o8 e=true)(hi:i<(gK l).length)(hn:mg shop (gK l)[i]!.shelf<0):gY l shop e ks=(⟨[]⟩,12):=by
 unfold gY;rw[ai fV,ak];exact List.any_eq_true.2 ⟨_,aq hi,bz hn⟩
def X8 {i:Nat}(hi:¬i<(gK l).length)(h:∀j,j<i->0<=mg shop (gK l)[j]!.shelf):¬((gK l).any fun p=>decide (mg shop p.shelf<0))=true:=by
 intro h1;obtain⟨p,hp,h2⟩:=List.any_eq_true.1 h1;obtain⟨j,hj,rfl⟩:=fU hp;have:=h j ae;simp at h2;rw[List.getElem!_eq_getElem?_getD]at this;omega
def abx (h:fJ shop=true/\o8 e=true)(hp:¬((gK l).any fun p=>decide (mg shop p.shelf<0))=true)(hw:(fO (yx l shop e ks)).2=false):gY l shop e ks=(⟨[]⟩,10):=by
 unfold gY;rw[ai fV,ai hp,ak hw]
def aby (h:fJ shop=true/\o8 e=true)(hp:¬((gK l).any fun p=>decide (mg shop p.shelf<0))=true)(hw:¬(fO (yx l shop e ks)).2=false):gY l shop e ks=((fO (yx l shop e ks)).1,0):=by
 unfold gY;rw[ai fV,ai hp,ai hw]
end
end Go.Abs
end
section
namespace Go.Abs
variable {Y:Ctx}(hm:(Y.at 0).bR)
section
variable [cN] {P:Program} {ν:List (Nat×Nat)} {bP:List Nat} {t:List (Nat×mA)} {fid key u:Nat} {af:aj} {y:cD} {lf nx:Nat} {m:List (Nat×bm)} {K:D->St->Prop}
def ZR (hmix:P.follows .mixedOrders=true)(hC:SP P ν bP fid af)(hnp:1=af.np)(h1:lf<nx)(hat:look m lf=some (.buf 2 [.agg [.aJ,.aJ]]))(hK:K (zA y) ⟨nx,cQ m lf⟩)
  (hw:dp ((under t key u).at 1) af.body (rI af (WldQ y)) (fq af [cD.D y (.ptr 0 2 0 0)]) ⟨1,[(0,.buf 2 [.agg [.aJ,.aJ]])]⟩):rO P ν bP (under t key u) fid [cD.D y (.ptr lf 2 0 0)] ⟨nx,m⟩ K:=by
 have g3:fX 0 1 [(lf,0)]=true:=by simp[fX]
 have g4:∀l i,(l,i)∈[(lf,0)]->look m l≠none:=by
  intro l i h;obtain⟨rfl,rfl⟩:=Prod.mk.inj (aC.1 h);rw[hat];simp
 have g5:∀i b,look [(0,bm.buf 2 [.agg [.aJ,.aJ]])] i=some b->∃l b',(l,i)∈[(lf,0)]/\look m l=some b'/\pB 0 [(lf,0)] b' b:=by
  intro i b h;simp only[look]at h;split at h
  .rename_i e;subst e;obtain rfl:=aW h;exact⟨lf,_,.head _,hat,rfl,.inl ⟨rfl,rfl⟩⟩
  .cases h
 refine Fu (σi:=[(lf,0)]) (cs:=[cD.D y (.ptr 0 2 0 0)]) (fun q=>D8 t key u q) hmix hC rfl ?_ hnp g3 g4 g5 hw ?_
 .intro i hi
  match i,hi with
  |0,_=>exact .inr (.inl (by simp[cD.D,rN,oo,R0,mz]))
 .rintro d m1 rfl;refine⟨[(0,lf)],1,⟨nx,cQ m lf⟩,zA y,⟨g3,by simp[fX,h1],aP _,g4, ?_,g5, ?_⟩,.inl ⟨rfl,rfl⟩,hK⟩
  .intro i l h;obtain⟨rfl,rfl⟩:=Prod.mk.inj (aC.1 h);exact .inl (.head _)
  .intro l bb h;rw[eY]at h;split at h
   .cases h
   .rename_i hne;exact .inr ⟨by simp only[nq,ai (fun e=>hne (Eq.symm e))],(fun i hi=>by obtain⟨rfl,_⟩:=Prod.mk.inj (aC.1 hi);exact hne rfl),h⟩
end
end Go.Abs
namespace Go.Abs
variable {Y:Ctx}(hm:(Y.at 0).bR)
def FF:∀{l:List D}{i:Nat},aL l=true->i<l.length->(l.getD i .any).aR=true
 |d::r,0,h,_=>by simp only[aL,aN]at h;exact h.1
 |d::r,i+1,h,hi=>by
  simp only[aL,aN]at h;exact FF (l:=r) h.2 lR
def B1 {y:cD}{rest:List D}(hr:aL rest=true):ad8 (fun f=>cD.D y f::rest):=by
 intro σ l l' h;refine⟨rfl,fun i hi=>?_⟩;cases i with
 |zero=>exact .inr (.inl (by simp[cD.D,rN,oo,R0,h]))
 |succ i=>exact .inl ⟨rfl,FF (l:=rest) hr lR⟩
def T5 (y:cD):(qO y).aR=true:=by rw[FU];rfl
end Go.Abs
end
namespace Go.Abs
variable {Y:Ctx}(hm:(Y.at 0).bR)
section
section
variable [cN] {P:Program} {ν:List (Nat×Nat)} {bP:List Nat} {t:List (Nat×mA)} {fid n key u k:Nat} {af:aj} {nx:Nat} {m:List (Nat×bm)} {K:D->St->Prop}
def S8 {lc n':Nat}{es es':List D}{a b e vd:D}{Q:D->List (Nat×bm)->Prop}(hes:aL es=true)(hes':aL es'=true)(ha:a.aR=true)(hb:b.aR=true)(he:e.aR=true)(hv:vd.aR=true)(hmix:P.follows .mixedOrders=true)(hC:SP P ν bP fid af)(hnp:4=af.np)(hn:n'=n)
  (hlt:lc<nx) (h1:look m lc=some (.buf 1 es)) (hK:K vd ⟨nx,cL m lc (.buf 1 es')⟩) (hQ:∀d m,Q d m->d=vd/\look m 0=some (.buf 1 es'))
  (hw:dp ((under t key u).at 1) af.body (rI af Q) (fq af [a,b,.own 0 1 0 n,e]) ⟨1,[(0,.buf 1 es)]⟩):rO P ν bP (under t key u) fid [a,b,.own lc 1 0 n',e] ⟨nx,m⟩ K:=by
 subst hn;have g3:fX 0 1 [(lc,0)]=true:=by simp[fX]
 have g4:∀l i,(l,i)∈[(lc,0)]->look m l≠none:=by
  intro l i h;obtain⟨rfl,rfl⟩:=Prod.mk.inj (aC.1 h);rw[h1];simp
 have g5:∀i b,look [(0,bm.buf 1 es)] i=some b->∃l b',(l,i)∈[(lc,0)]/\look m l=some b'/\pB 0 [(lc,0)] b' b:=by
  intro i b h;simp only[look]at h;split at h
  .rename_i e;subst e;obtain rfl:=aW h;exact⟨lc,_,.head _,h1,rfl,.inl ⟨rfl,hes⟩⟩
  .cases h
 refine Fu (σi:=[(lc,0)]) (cs:=[a,b,.own 0 1 0 n',e]) (fun q=>D8 t key u q) hmix hC rfl ?_ hnp g3 g4 g5 hw ?_
 .intro i hi
  match i,hi with
  |0,_=>exact .inl ⟨rfl,ha⟩
  |1,_=>exact .inl ⟨rfl,hb⟩
  |2,_=>exact .inr (.inl J5)
  |3,_=>exact .inl ⟨rfl,he⟩
 .intro d m1 h;obtain⟨rfl,hj⟩:=hQ d m1 h;refine⟨[(0,lc)],1,⟨nx,cL m lc (.buf 1 es')⟩,d,⟨g3,by simp[fX,hlt],aP _,g4, ?_,g5, ?_⟩,.inl ⟨rfl,hv⟩,hK⟩
  .intro i l h;obtain⟨rfl,rfl⟩:=Prod.mk.inj (aC.1 h);exact .inl (.head _)
  .intro l bb h;rw[bJ]at h;split at h
   .rename_i e;subst e;obtain rfl:=aW h;exact .inl ⟨0,_,.head _,hj,rfl,.inl ⟨rfl,hes'⟩⟩
   .rename_i hne;exact .inr ⟨by simp only[nq,ai (fun e=>hne (Eq.symm e))],(fun i hi=>by obtain⟨rfl,_⟩:=Prod.mk.inj (aC.1 hi);exact hne rfl),h⟩
def Tr {lm lc n':Nat}{es es' kvs:List D}{a b e vd:D}{Q:D->List (Nat×bm)->Prop}(hes:aL es=true)(hes':aL es'=true)(ha:rN 0 [(lc,0),(lm,1)] a=some a)(hb:rN 0 [(lc,0),(lm,1)] b=some b)(he:e.aR=true)(hv:vd.aR=true)(hmix:P.follows .mixedOrders=true)(hC:SP P ν bP fid af)(hnp:2=af.np)(hn:n'=n)
  (hlt:lc<nx) (hltm:lm<nx) (h1:look m lc=some (.buf 1 es)) (h2:look m lm=some (.mpb kvs)) (hK:K vd ⟨nx,cL m lc (.buf 1 es')⟩) (hQ:∀d m,Q d m->d=vd/\look m 0=some (.buf 1 es')/\look m 1=some (.mpb kvs))
  (hw:dp ((under t key u).at 2) af.body (rI af Q) (fq af [.agg [a,b,.fn 5000000 [.it 1],.own 0 1 0 n],e]) ⟨2,[(0,.buf 1 es),(1,.mpb kvs)]⟩):rO P ν bP (under t key u) fid [.agg [a,b,.fn 5000000 [.it lm],.own lc 1 0 n'],e] ⟨nx,m⟩ K:=by
 subst hn;have hne:lc≠lm:=by rintro rfl;rw[h1]at h2;cases h2
 have b1:Nat.beq lc lm=false:=by rw[<-Bool.not_eq_true];exact fun h=>hne (Nat.eq_of_beq_eq_true h)
 have b2:Nat.beq lm lc=false:=by rw[<-Bool.not_eq_true];exact fun h=>hne (Nat.eq_of_beq_eq_true h).symm
 have g3:fX 0 2 [(lc,0),(lm,1)]=true:=by simp[fX,b1,b2,Nat.blt];exact rfl
 have g4:∀l i,(l,i)∈[(lc,0),(lm,1)]->look m l≠none:=by
  intro l i h;simp only[b9,di,cV,or_false]at h;rcases h with⟨rfl,_⟩|⟨rfl,_⟩<;>simp[h1,h2]
 have g5:∀i b,look [(0,bm.buf 1 es),(1,.mpb kvs)] i=some b->∃l b',(l,i)∈[(lc,0),(lm,1)]/\look m l=some b'/\pB 0 [(lc,0),(lm,1)] b' b:=by
  intro i b h;simp only[look]at h;split at h
  .rename_i e;subst e;obtain rfl:=aW h;exact⟨lc,_,.head _,h1,rfl,.inl ⟨rfl,hes⟩⟩
  .split at h
   .rename_i e;subst e;obtain rfl:=aW h;exact⟨lm,_,.tail _ (.head _),h2,rfl⟩
   .cases h
 refine Fu (σi:=[(lc,0),(lm,1)]) (cs:=[.agg [a,b,.fn 5000000 [.it 1],.own 0 1 0 n'],e]) (fun q=>D8 t key u q) hmix hC rfl ?_ hnp g3 g4 g5 hw ?_
 .intro i hi
  match i,hi with
  |0,_=>exact .inr (.inl (by simp[rN,oo,R0,mz,ha,hb,b1,b2]))
  |1,_=>exact .inl ⟨rfl,he⟩
 .intro d m1 h;obtain⟨rfl,hj,hk⟩:=hQ d m1 h;refine⟨[(0,lc),(1,lm)],2,⟨nx,cL m lc (.buf 1 es')⟩,d,⟨g3,by simp[fX,hlt,hltm,b1,b2,Nat.blt];exact⟨hlt,rfl,hltm⟩,aP _,g4, ?_,g5, ?_⟩,.inl ⟨rfl,hv⟩,hK⟩
  .intro i l h;simp only[b9,di,cV,or_false]at h;rcases h with⟨rfl,rfl⟩|⟨rfl,rfl⟩
   .exact .inl (.head _)
   .exact .inl (.tail _ (.head _))
  .intro l bb h;rw[bJ]at h;split at h
   .rename_i e;subst e;obtain rfl:=aW h;exact .inl ⟨0,_,.head _,hj,rfl,.inl ⟨rfl,hes'⟩⟩
   .rename_i h3;by_cases h4:l=lm
    .subst h4;rw[h2]at h;obtain rfl:=aW h;exact .inl ⟨1,_,.tail _ (.head _),hk,rfl⟩
    .exact .inr ⟨by simp only[nq,ai (fun e=>h3 (Eq.symm e)),ai (fun e=>h4 (Eq.symm e))],(fun i hi=>by
      simp only[b9,di,cV,or_false]at hi;rcases hi with⟨rfl,_⟩|⟨rfl,_⟩
      .exact h3 rfl
      .exact h4 rfl),h⟩
end
end
section
section
variable [cN] {P:Program} {ν:List (Nat×Nat)} {bP:List Nat} {t:List (Nat×mA)} {fid n key u k:Nat} {af:aj} {nx:Nat} {m:List (Nat×bm)} {K:D->St->Prop}
def rS {a b:Nat}(h:a≠b):Nat.beq a b=false:=by
 cases h2:Nat.beq a b with
 |false=>rfl
 |true=>exact absurd (Nat.eq_of_beq_eq_true h2) h
def DP {m:List (Nat×bm)}{l lw:Nat}(h:l≠lw):gw (cQ m lw) l=match look m l with
 |some (.bld (some l2) _ _)=>cQ (cQ m lw) l2
 |_=>cQ m lw:=by
 grind [gw,eY,look]
def TD {ws:List av}{s:av}{l lw:Nat}(hmix:P.follows .mixedOrders=true)(hC:SP P ν bP fid af)(hnp:2=af.np)
  (h1:uL m l s) (h2:look m lw=some (.buf 1 (ws.map D.str))) (h3:l<nx) (h4:lw<nx) (hK:K (.tup []) ⟨nx+1,rT (cQ m lw) l nx (s++cw ws)⟩)
  (hw:∀m0,uL m0 0 s->look m0 1=some (.buf 1 (ws.map D.str))->dp ((under t key u).at 3) af.body (rI af (fun d m=>d=.tup []/\look m 0=some (.bld (some 9) (s++cw ws).length true)/\look m 9=some (.row (s++cw ws)))) (fq af [.ptr 0 2 0 0,.own 1 1 0 ws.length]) ⟨3,m0⟩):
  rO P ν bP (under t key u) fid [.ptr l 2 0 0,.own lw 1 0 ws.length] ⟨nx,m⟩ K:=by
 have hlw:l≠lw:=by
  rintro rfl;rcases h1 with⟨u,h,_⟩|⟨l2,u,h,_⟩<;>rw[h2]at h<;>cases h
 have hnl:aL (ws.map D.str)=true:=bH (fun _=>rfl) _;have b1:=rS hlw;have b2:=rS (Ne.symm hlw);have b3:=rS (show l≠nx by omega);have b4:=rS (show nx≠l by omega)

 have fin:∀(σi:List (Nat×Nat)) (m0:List (Nat×bm)),fX 0 3 σi=true->(l,0)∈σi->(∀l i,(l,i)∈σi->look m l≠none)->(∀i b,look m0 i=some b->∃l b',(l,i)∈σi/\look m l=some b'/\pB 0 σi b' b)->
   (∀l' b,look (gw (cQ m lw) l) l'=some b->l'≠l->look m l'=some b/\∀i,(l',i)∉σi)->∀d m1,(d=.tup []/\look m1 0=some (.bld (some 9) (s++cw ws).length true)/\look m1 9=some (.row (s++cw ws)))->
   ∃(σo:List (Nat×Nat)) (q1:Nat) (st':St) (vd':D),Fr σi σo 3 q1 m0 m1 ⟨nx,m⟩ st'/\RnD 0 σo d vd'/\K vd' st':=by
  rintro σi m0 oki hm hlt hm0 hoff d m1 ⟨rfl,e0,e9⟩;refine⟨[(0,l),(9,nx)],10,⟨nx+1,rT (cQ m lw) l nx (s++cw ws)⟩,.tup [],⟨oki, ?_,Nat.le_succ _,hlt, ?_,hm0, ?_⟩,.inl ⟨rfl,rfl⟩,hK⟩
  .simp[fX,b3,b4];exact⟨ae,rfl⟩
  .intro i l' h;rcases b9.1 h with h|h
   .obtain⟨rfl,rfl⟩:=Prod.mk.inj h;exact .inl hm
   .obtain⟨rfl,rfl⟩:=Prod.mk.inj (aC.1 h);exact .inr (aP _)
  .intro l' bb h;simp only[rT,look]at h;split at h
   .rename_i e;subst e;obtain rfl:=aW h;exact .inl ⟨9,_,.tail _ (.head _),e9,rfl⟩
   .rename_i hln;rw[bJ]at h;split at h
    .rename_i e;subst e;obtain rfl:=aW h;exact .inl ⟨0,_,.head _,e0,⟨nx,rfl,rfl⟩,rfl,rfl⟩
    .rename_i hl;obtain⟨g1,g2⟩:=hoff l' bb h hl;exact .inr ⟨by simp only[nq,ai (fun e=>hl (Eq.symm e)),ai hln],g2,g1⟩
 rcases h1 with⟨u,h1,rfl⟩|⟨l2,u,h1,h5⟩
 .have g4:∀l' i,(l',i)∈[(l,0),(lw,1)]->look m l'≠none:=by
   intro l' i h;rcases b9.1 h with h|h
   .obtain⟨rfl,rfl⟩:=Prod.mk.inj h;rw[h1];simp
   .obtain⟨rfl,rfl⟩:=Prod.mk.inj (aC.1 h);rw[h2];simp
  have g3:fX 0 3 [(l,0),(lw,1)]=true:=by simp[fX,b1,b2];rfl
  have g5:∀i b,look [(0,bm.bld none 0 u),(1,.buf 1 (ws.map D.str))] i=some b->∃l' b',(l',i)∈[(l,0),(lw,1)]/\look m l'=some b'/\pB 0 [(l,0),(lw,1)] b' b:=by
   intro i b h;simp only[look]at h;split at h
   .rename_i e;subst e;obtain rfl:=aW h;exact⟨l,_,.head _,h1,rfl,rfl,rfl⟩
   .split at h
    .rename_i e;subst e;obtain rfl:=aW h;exact⟨lw,_,.tail _ (.head _),h2,rfl,.inl ⟨rfl,hnl⟩⟩
    .cases h
  refine Fu (σi:=[(l,0),(lw,1)]) (cs:=[.ptr 0 2 0 0,.own 1 1 0 ws.length]) (fun q=>D8 t key _ q) hmix hC rfl ?_ hnp g3 g4 g5 (hw _ (.inl ⟨u,rfl,rfl⟩) rfl) (fin _ _ g3 (.head _) g4 g5 ?_)
  .intro i hi
   match i,hi with
   |0,_=>exact .inr (.inl J5)
   |1,_=>exact .inr (.inl (by simp[rN,R0,mz,b1]))
  .intro l' b h hl;rw[DP hlw]at h;simp only[h1]at h;rw[eY]at h;split at h
   .cases h
   .rename_i hw';refine⟨h,fun i hi=>?_⟩;rcases b9.1 hi with hi|hi
    .exact hl (Prod.mk.inj hi).1
    .exact hw' (Prod.mk.inj (aC.1 hi)).1
 .have c1:l2≠l:=by rintro rfl;rw[h1]at h5;cases h5
  have c2:l2≠lw:=by rintro rfl;rw[h2]at h5;cases h5
  have d1:=rS c1;have d2:=rS c2;have d3:=rS (Ne.symm c1);have d4:=rS (Ne.symm c2);have g4:∀l' i,(l',i)∈[(l,0),(lw,1),(l2,2)]->look m l'≠none:=by
   intro l' i h;rcases b9.1 h with h|h
   .obtain⟨rfl,rfl⟩:=Prod.mk.inj h;rw[h1];simp
   .rcases b9.1 h with h|h
    .obtain⟨rfl,rfl⟩:=Prod.mk.inj h;rw[h2];simp
    .obtain⟨rfl,rfl⟩:=Prod.mk.inj (aC.1 h);rw[h5];simp
  have g3:fX 0 3 [(l,0),(lw,1),(l2,2)]=true:=by simp[fX,b1,b2,d1,d2,d3,d4];exact⟨⟨rfl,rfl⟩,rfl⟩
  have g5:∀i b,look [(0,bm.bld (some 2) s.length u),(1,.buf 1 (ws.map D.str)),(2,.row s)] i=some b->∃l' b',(l',i)∈[(l,0),(lw,1),(l2,2)]/\look m l'=some b'/\pB 0 [(l,0),(lw,1),(l2,2)] b' b:=by
   intro i b h;simp only[look]at h;split at h
   .rename_i e;subst e;obtain rfl:=aW h;exact⟨l,_,.head _,h1,⟨2,by simp[mz,d3,d4],rfl⟩,rfl,rfl⟩
   .split at h
    .rename_i e;subst e;obtain rfl:=aW h;exact⟨lw,_,.tail _ (.head _),h2,rfl,.inl ⟨rfl,hnl⟩⟩
    .split at h
     .rename_i e;subst e;obtain rfl:=aW h;exact⟨l2,_,.tail _ (.tail _ (.head _)),h5,rfl⟩
     .cases h
  refine Fu (σi:=[(l,0),(lw,1),(l2,2)]) (cs:=[.ptr 0 2 0 0,.own 1 1 0 ws.length]) (fun q=>D8 t key _ q) hmix hC rfl ?_ hnp g3 g4 g5 (hw _ (.inr ⟨2,u,rfl,rfl⟩) rfl) (fin _ _ g3 (.head _) g4 g5 ?_)
  .intro i hi
   match i,hi with
   |0,_=>exact .inr (.inl J5)
   |1,_=>exact .inr (.inl (by simp[rN,R0,mz,b1]))
  .intro l' b h hl;rw[DP hlw]at h;simp only[h1]at h;rw[eY]at h;split at h
   .cases h
   .rename_i hw2;rw[eY]at h;split at h
    .cases h
    .rename_i hw';refine⟨h,fun i hi=>?_⟩;rcases b9.1 hi with hi|hi
     .exact hl (Prod.mk.inj hi).1
     .rcases b9.1 hi with hi|hi
      .exact hw' (Prod.mk.inj hi).1
      .exact hw2 (Prod.mk.inj (aC.1 hi)).1
end
end
section
section
variable [cN] {P:Program} {ν:List (Nat×Nat)} {bP:List Nat} {t:List (Nat×mA)} {fid n key u k:Nat} {af:aj} {nx:Nat} {m:List (Nat×bm)} {K:D->St->Prop}
end
end
section
section
variable [cN] {P:Program} {ν:List (Nat×Nat)} {bP:List Nat} {t:List (Nat×mA)} {fid key u k:Nat} {af:aj} {nx:Nat} {m:List (Nat×bm)} {K:D->St->Prop}
end
end
section
section
variable [cN] {P:Program} {ν:List (Nat×Nat)} {bP:List Nat} {t:List (Nat×mA)} {fid key u k:Nat} {af:aj} {nx:Nat} {m:List (Nat×bm)} {K:D->St->Prop}
end
end
end Go.Abs
section
namespace Go.Abs
variable {Y:Ctx}(hm:(Y.at 0).bR)
def ah {p:Prop}(h:p:=by exact rfl):p:=h
def OR {p:Prop}(h:p:=by repeat(first|exact fk.nil|refine fk.un ?_|refine fk.eq cW ?_)):p:=h
def dV {p:Prop}(h:p:=by first|exact rfl|exact bH (fun _=>rfl) _):p:=h
def OQ {p:Prop}(h:p:=by repeat(first|exact fk.nil|refine fk.un ?_|refine fk.eq cW ?_|refine fk.nl cW cW ?_)):p:=h
def iF {p:Prop}(h:p:=by repeat' first|exact trivial|exact rfl|refine And.intro ?_ ?_):p:=h
def Di {p:Prop}(h:p:=by repeat' first|exact trivial|exact rfl|exact aP _|refine And.intro ?_ ?_):p:=h
def Dh {p:Prop}(h:p:=by repeat(first|exact bo.nil|refine bo.vI cW cW (by first|exact rfl|exact bH (fun _=>rfl) _) ?_|refine bo.Kr cW cW cW ?_|refine bo.Nr cW cW cW cW ?_)):p:=h
def LX {p:Prop}(h:p:=by simp only[uR,iA,lg,xg,A1,cQ,Nat.reduceEqDiff,aZ,aU,fS,dJ,dj,fI,fR,b8,bj,aP,cT,bw,reduceCtorEq,bE,b7,Nat.reduceAdd,Nat.reduceLeDiff];exact rfl):p:=h
def b0 {p:Prop} [Decidable p]:(decide p=true)=p:=bn
def b1 {p:Prop} [Decidable p]:decide p=false↔¬p:=cK
def b2 (b:Bool):((!b)=true)=(b=false):=cG b
def b3 (b:Bool):((!b)=false)=(b=true):=dH b
def b4 (b:Bool):(¬(b=false))=(b=true):=Bool.not_eq_false b
def b5 (a b:Bool):((a ||b)=true)=(a=true\/b=true):=dI a b
end Go.Abs
namespace Go.Abs
variable {Y:Ctx}(hm:(Y.at 0).bR)
abbrev wkk (Y:Ctx)(a:aj)(d:D)(ds:List D):Prop:=dp (Y.at 0) a.body (ND a d) (fq a ds) ⟨0,[]⟩
def fw {a:aj}{d d2:D}{e:Ex}{nx:Nat}{m:List (Nat×bm)}{env:List aX}(h:d2=d)(he:e.home:=by exact trivial)(h1:om m env a.res:=by exact Di)(h2:AP a env m:=by exact iF)(h3:Nk a env m=d2:=by exact rfl):ND a d e env ⟨nx,m⟩:=PC he h1 h2 (h3.trans h)
def rrrb {a:aj}{d d2:Bool}{e:Ex}{nx:Nat}{m:List (Nat×bm)}{env:List aX}(h:d2=d)(he:e.home:=by exact trivial)(h1:om m env a.res:=by exact Di)(h2:AP a env m:=by exact iF)(h3:Nk a env m=.bool d2:=by exact rfl):ND a (.bool d) e env ⟨nx,m⟩:=fw (aw _ h) he h1 h2 h3
def gtt {lo c nx nx2:Nat}{env env2:List aX}{m m2:List (Nat×bm)}(σ:List (Nat×Nat))(hc:nx2=c:=by exact ah)(h:fX lo c σ=true:=by exact ah)(he:fk lo σ env env2:=by exact OQ)(hm:bo lo c σ m m2:=by exact Dh):aV lo env ⟨nx,m⟩ env2 ⟨nx2,m2⟩:=aV.to σ hc h he hm
end Go.Abs
namespace Go.Abs
variable {Y:Ctx}(hm:(Y.at 0).bR)
end Go.Abs
namespace Go.Abs
variable {Y:Ctx}(hm:(Y.at 0).bR)
section
variable {Y:Ctx} {Q:Ex->List aX->St->Prop}
def cmN {env rs:List aX}:VY env rs []=env:=rfl
def cmC {s p:Nat}{r:List (Nat×Nat)}{env rs env1 env':List aX}{f:Bool}{d:D}(e:bV [] rs (.l p)=⟨f,d⟩)(hs:env.set s ⟨f,d⟩=env1)(h:VY env1 rs r=env'):VY env rs ((s,p)::r)=env':=by
 simp only[VY,e,hs,h]
def rrrg {draw:Bool}{cm:List (Nat×Nat)}{b:AC}{nx nx':Nat}{m:List (Nat×bm)}{rs env fq env':List aX}(h:dp Y b Q env' ⟨nx',m⟩)
  (he:VY env rs cm=env':=by repeat(first|apply cmC cW (by simp only[List.set_cons_zero,List.set_cons_succ];exact rfl)|with_reducible exact cmN)) (hn:nx+rs.length=nx':=by simp only[bE,b7,Nat.reduceAdd];exact rfl):aA Y draw [] fq rs nx m (fun vs st'=>dp Y b Q (iy env vs cm) st'):=
 bp h he hn
def rrrh {draw:Bool}{cm:List (Nat×Nat)}{nx nx':Nat}{m:List (Nat×bm)}{rs env fq env':List aX}(h:Q .normal env' ⟨nx',m⟩)
  (he:VY env rs cm=env':=by repeat(first|apply cmC cW (by simp only[List.set_cons_zero,List.set_cons_succ];exact rfl)|with_reducible exact cmN)) (hn:nx+rs.length=nx':=by simp only[bE,b7,Nat.reduceAdd];exact rfl):aA Y draw [] fq rs nx m (fun vs st'=>Q .normal (iy env vs cm) st'):=
 nw h he hn
end
def Fam (_:Prop):Type:=Unit
def wz {q:Prop}:Fam q:=()
structure Hid (q:Prop)(f:Fam q):Prop where
 val:q
section
variable {Y:Ctx} {draw b1:Bool} {r:List GI} {env rs:List aX} {nx n0 n1:Nat} {m:List (Nat×bm)} {K:List aX->St->Prop} {g:Option (Nat×Bool)} {x0 x1 x2:Src}
end
def zzn {p q:Prop}(k:q)(h:Hid q wz->p:=by intro h;first|exact Dl fun _=>h.1|exact Dm fun _=>h.1|exact OX fun _=>h.1):p:=h ⟨k⟩
section
variable {Y:Ctx} {Q:Ex->List aX->St->Prop}
end
def gF:(∀{p:Prop} [Decidable p],(decide p=true)=p)/\(∀{p:Prop} [Decidable p],decide p=false↔¬p)/\(∀b:Bool,((!b)=true)=(b=false))/\(∀b:Bool,((!b)=false)=(b=true))/\(∀b:Bool,(¬(b=false))=(b=true))/\(∀a b:Bool,((a ||b)=true)=(a=true\/b=true))/\(∀{a b:Bool},(a ||b)=false↔a=false/\b=false)/\(∀a b:Bool,((a&&b)=true)=(a=true/\b=true))/\(∀{a b:Bool},(a&&b)=false↔a=false\/b=false)/\(∀b:Bool,(¬(b=true))=(b=false))/\(∀b:Bool,(true&&b)=b)/\∀b:Bool,(b&&true)=b:=
 ⟨bn,cK,cG,dH,Bool.not_eq_false,dI,gC,aN,eo,Bool.not_eq_true,fT,gQ⟩
section
variable {Y:Ctx} {Q:Ex->List aX->St->Prop} {env:List aX} {st:St}
def dE {c:Src}{a b r:AC}{t:Bool}{c1 c2:Prop}(h1:c1->dp Y (.seq a r) Q env st)(h2:c2->dp Y (.seq b r) Q env st)(hc:bV env [] c=⟨true,.bool t⟩:=by exact rfl)(e1:t=true->c1:=by intro h;(try simp only[gF]at h);exact h)(e2:t=false->c2:=by intro h;(try simp only[gF]at h);exact h):dp Y (.seq (.cond c a b) r) Q env st:=aQ (fun h=>h1 (e1 h)) (fun h=>h2 (e2 h)) hc
def Bw {c:Src}{a b:AC}{t:Bool}{c1 c2:Prop}(h1:c1->dp Y a Q env st)(h2:c2->dp Y b Q env st)(hc:bV env [] c=⟨true,.bool t⟩:=by exact rfl)(e1:t=true->c1:=by intro h;(try simp only[gF]at h);exact h)(e2:t=false->c2:=by intro h;(try simp only[gF]at h);exact h):dp Y (.cond c a b) Q env st:=wp_cond (fun h=>h1 (e1 h)) (fun h=>h2 (e2 h)) hc
end
end Go.Abs
namespace Go.Abs
variable {Y:Ctx}(hm:(Y.at 0).bR)
end Go.Abs
namespace Go.Abs
variable {Y:Ctx}(hm:(Y.at 0).bR)
abbrev zzh1:List Sh:=[.a,.a,.a,.a,.a,.a,.sl 3 [.sl 4 [.a,.a,.sl 1 [.a],.a],.a,.a],.sl 3 [.a,.a,.a],.sl 2 [.a,.sl 1 [.a]]]
abbrev s0:Src:=.s 0
abbrev s1:Src:=.s 1
abbrev s2:Src:=.s 2
abbrev s3:Src:=.s 3
abbrev s4:Src:=.s 4
abbrev s5:Src:=.s 5
abbrev s6:Src:=.s 6
abbrev s7:Src:=.s 7
abbrev s8:Src:=.s 8
abbrev s9:Src:=.s 9
abbrev H5:Src:=.s 10
abbrev s11:Src:=.s 11
abbrev R5:Src:=.s 12
abbrev s13:Src:=.s 13
abbrev s14:Src:=.s 14
abbrev s15:Src:=.s 15
abbrev s16:Src:=.s 16
abbrev s17:Src:=.s 17
abbrev s18:Src:=.s 18
abbrev s19:Src:=.s 19
abbrev s20:Src:=.s 20
abbrev s21:Src:=.s 21
abbrev s22:Src:=.s 22
abbrev s23:Src:=.s 23
abbrev s24:Src:=.s 24
abbrev s25:Src:=.s 25
abbrev s26:Src:=.s 26
abbrev l0:Src:=.l 0
abbrev l1:Src:=.l 1
abbrev l2:Src:=.l 2
abbrev l3:Src:=.l 3
abbrev l4:Src:=.l 4
abbrev l5:Src:=.l 5
abbrev l6:Src:=.l 6
abbrev l7:Src:=.l 7
abbrev l8:Src:=.l 8
abbrev l9:Src:=.l 9
abbrev l10:Src:=.l 10
abbrev Xg:Src:=.l 11
abbrev l12:Src:=.l 12
abbrev l13:Src:=.l 13
abbrev l14:Src:=.l 14
abbrev l15:Src:=.l 15
abbrev l16:Src:=.l 16
abbrev l17:Src:=.l 17
abbrev l18:Src:=.l 18
abbrev l19:Src:=.l 19
abbrev gm (x:Src):GI:=⟨.mv x,none⟩
abbrev gn (x:ax):GI:=⟨x,none⟩
abbrev i6 (n:Int):Src:=.c (.int .i64 n)
abbrev cs (s:List UInt8):Src:=.c (.str s)
abbrev gd (x:Src):GI:=⟨.ld 1 false x,none⟩
abbrev gk (n:Nat)(b:Bool)(x:Src):GI:=⟨.ld n b x,none⟩
abbrev gf (n:Nat)(x:Src):GI:=⟨.fa n x,none⟩
abbrev gl (x:Src):GI:=⟨.len x,none⟩
abbrev ga (n:Nat)(x y:Src):GI:=⟨.ia n x y,none⟩
abbrev gb (n:Nat)(x:Src):GI:=⟨.box n x,none⟩
abbrev gt (n:Nat)(x y:Src):GI:=⟨.st n x y,none⟩
abbrev gx (n:Nat)(x:List Src)(y:List (List Sh)):GI:=⟨.call n x y,none⟩
abbrev rg (x:List GI)(y:List (Nat×Nat)):AC:=.reg false x y
abbrev rt (x:List GI)(y:List (Nat×Nat)):AC:=.reg true x y
abbrev VF (x y:Src):ax:=.bin .lss x y
abbrev wL (x y:Src):ax:=.bin .eql x y
abbrev b_gtr (x y:Src):ax:=.bin .gtr x y
abbrev cbF:Src:=.c (.bool false)
abbrev cbT:Src:=.c (.bool true)
abbrev cse:Src:=.c (.str [])
abbrev rM:Src:=.c (.int .i64 0)
abbrev Kq:Src:=.c (.int .i64 1)
abbrev gmt (n:Nat)(x:Src):GI:=⟨.mv x,some (n,true)⟩
abbrev WJ (n:Nat)(x:Src):GI:=⟨.ld 1 false x,some (n,true)⟩
abbrev Nq (n o:Nat)(x:Src):GI:=⟨.fa o x,some (n,true)⟩
abbrev sg (n:Nat)(x:ax):GI:=⟨x,some (n,true)⟩
abbrev gmf (n:Nat)(x:Src):GI:=⟨.mv x,some (n,false)⟩
abbrev gdf (n:Nat)(x:Src):GI:=⟨.ld 1 false x,some (n,false)⟩
abbrev gff (n o:Nat)(x:Src):GI:=⟨.fa o x,some (n,false)⟩
abbrev uD (n:Nat)(x:ax):GI:=⟨x,some (n,false)⟩
abbrev sq (a b:AC):AC:=.seq a b
abbrev gcr (c x:Src):AC:=.cond c (.seq (.reg false [⟨.mv x,none⟩] [(1,0)]) .ret) .skip
abbrev ha1:List (List Sh):=[[.a]]
abbrev ha3:List (List Sh):=[[.a,.a,.a]]
abbrev ha5:List (List Sh):=[[.a,.a,.a,.a,.a]]
abbrev si:List (List Sh):=[[.a],[.a]]
abbrev hb3:List (List Sh):=[[.a],[.a],[.a]]
abbrev hb4:List (List Sh):=[[.a],[.a],[.a],[.a]]
abbrev Q3 (c x:Src):GI:=⟨.pick c (.c (.bool true)) x,none⟩
abbrev UR (c x:Src):GI:=⟨.pick c x (.c (.bool false)),none⟩
abbrev gaf (n:Nat)(c x:Src):GI:=⟨.pick c x (.c (.bool false)),some (n,false)⟩
abbrev lz (x y:Src):GI:=⟨.bin .lss x y,none⟩
abbrev Hh (x y:Src):GI:=⟨.bin .eql x y,none⟩
abbrev mE (x y:Src):GI:=⟨.bin .add x y,none⟩
abbrev XC (x y:Src):GI:=⟨.bin .gtr x y,none⟩
abbrev qJ (x y:Src):GI:=⟨.bin .neq x y,none⟩
abbrev ai9 (x y:Src):GI:=⟨.bin .leq x y,none⟩
abbrev ai8 (x y:Src):GI:=⟨.bin .geq x y,none⟩
abbrev US (c:Src)(n:Nat):AC:=.cond c .skip (.exit n)
abbrev i8 (n:Int):Src:=.c (.int .u8 n)
abbrev i3 (n:Int):Src:=.c (.int .i32 n)
abbrev gno (x:Src):GI:=⟨.un .not x,none⟩
abbrev r1 (x:List GI)(a b:Nat):AC:=.reg false x [(a,b)]
abbrev r2 (x:List GI)(a b:Nat):AC:=.reg true x [(a,b)]
abbrev re1:List GA:=[⟨1,none⟩]
end Go.Abs
end
namespace Go.Abs
variable {Y:Ctx}(hm:(Y.at 0).bR)
def ID (T:List D->D->Prop):Prop:=∀(l:List av) (x:UInt8),((cv [x] l).length<=1099511627776)->T [.sl 1 (l.map D.str),.int .u8 (x.toNat:Nat)] (.str (cv [x] l))
def C249 (Y:Ctx):Prop:=ID (aE Y 249)
def JM (T:List D->D->Prop):Prop:=∀(l:List av),T [.sl 1 (l.map D.str)] (.bool (rising l))
def C815 (Y:Ctx):Prop:=JM (aE Y 815)
def oV (T:List D->D->Prop):Prop:=∀(n:Int),(0<=n/\n<=9999)->T [.int .i64 n] (.str (nL n.toNat))
def C336 (Y:Ctx):Prop:=oV (aE Y 336)
def Sz (T:List D->D->Prop):Prop:=∀(l:List av) (sep:av),(l.length<=1048600)->(sep.length<=4)->(∀t∈l,t.length<=2097200)->T [.sl 1 (l.map D.str),.str sep] (.str (cv sep l))
def C242 (Y:Ctx):Prop:=Sz (aE Y 242)
def Sv (T:List D->D->Prop):Prop:=∀(s:av) (b:UInt8),(s.length<=1048576)->T [.str s,.str [b]] (.sl 1 ((bd s b.toNat).map D.str))
def C124 (Y:Ctx):Prop:=Sv (aE Y 124)
def SF (T:List D->D->Prop):Prop:=∀(s:av) (b:UInt8),(s.length<=1048576)->T [.str s,.str [b]] (.tup [.str (uC s b).1,.str (uC s b).2.1,.bool (uC s b).2.2])
def C487 (Y:Ctx):Prop:=SF (aE Y 487)
def SA (T:List D->D->Prop):Prop:=∀(s:av) (p:av),(s.length<=1048576)->(p.length<=1048576)->T [.str s,.str p] (.tup [.str (qx s p).1,.bool (qx s p).2])
def C254 (Y:Ctx):Prop:=SA (aE Y 254)
def Sx (T:List D->D->Prop):Prop:=∀(s:av),(oQ s)->T [.str s] (.bool (xy s))
def C212 (Y:Ctx):Prop:=Sx (aE Y 212)
def C670 (Y:Ctx):Prop:=Sx (aE Y 670)
def SC (T:List D->D->Prop):Prop:=∀(s:av),(ki s)->T [.str s] (.bool (qN s))
def C444 (Y:Ctx):Prop:=SC (aE Y 444)
def C572 (Y:Ctx):Prop:=SC (aE Y 572)
def Sy (T:List D->D->Prop):Prop:=∀(l:List ch),(jm l)->T [.sl 2 (l.map ch.D)] (.bool (ee l))
def C213 (Y:Ctx):Prop:=Sy (aE Y 213)
def SD (T:List D->D->Prop):Prop:=∀(s:av),(rr s)->T [.str s] (.tup [.int .i64 (bL s).1,.str (bL s).2.1,.str (bL s).2.2])
def C448 (Y:Ctx):Prop:=SD (aE Y 448)
def C459 (Y:Ctx):Prop:=Sy (aE Y 459)
def C672 (Y:Ctx):Prop:=SD (aE Y 672)
def tL (T:List D->D->Prop):Prop:=∀(r:Rec),(Fv r/\ic r)->T [Rec.D r] (.str (D4 r))
def C219 (Y:Ctx):Prop:=tL (aE Y 219)
def C215 (Y:Ctx):Prop:=tL (aE Y 215)
def Nn (T:List D->D->Prop):Prop:=∀(s:av),(s.length<=1048576)->T [.str s,.str [124,124]] (.sl 1 ((jh s []).map D.str))
def aen (Y:Ctx):Prop:=Nn (aE Y 124)
def SH (T:List D->D->Prop):Prop:=∀(s:av) (b:UInt8),(b=32)->(s.length<=1048576)->T [.str s,.str [b]] (.str (B4 s))
def C683 (Y:Ctx):Prop:=SH (aE Y 683)
def tT (T:List D->D->Prop):Prop:=∀(s:av),T [.str s] (.bool (gr s))
def SM (Y:Ctx):Prop:=tT (aE Y 349)
def tI (T:List D->D->Prop):Prop:=∀(s:av),T [.str s] (.bool (dn s))
def SK (Y:Ctx):Prop:=tI (aE Y 208)
def uk (T:List D->D->Prop):Prop:=∀(s:av),T [.str s] (.tup [.int .i64 (C6 s),.bool (oc s)])
def C658 (Y:Ctx):Prop:=uk (aE Y 658)
def ue (T:List D->D->Prop):Prop:=∀(s:av) (b:Int),(s.length<=1048576)->T [.str s,.int .u8 b] (.sl 1 ((bd s b).map D.str))
def U6 (Y:Ctx):Prop:=ue (aE Y 533)
def um (T:List D->D->Prop):Prop:=∀(t:av),T [.str t] (.bool (cP t))
def C659 (Y:Ctx):Prop:=um (aE Y 659)
def tY (T:List D->D->Prop):Prop:=∀(n:Int),T [.int .i64 n] (.bool (Cq n))
def C440 (Y:Ctx):Prop:=tY (aE Y 440)
def IZ (T:List D->D->Prop):Prop:=∀(s:av),(s.length<=1048576)->T [.str s] (.bool (sP s false))
def C442 (Y:Ctx):Prop:=IZ (aE Y 442)
def IY (T:List D->D->Prop):Prop:=∀(s:av),(s.length<=1048576)->T [.str s] (.bool (sP s true))
def C441 (Y:Ctx):Prop:=IY (aE Y 441)
def tJ (T:List D->D->Prop):Prop:=∀(v:bZ),(v.sm)->T [bZ.D v] (.bool (gy v))
def AR (Y:Ctx):Prop:=tJ (aE Y 209)
def C665 (Y:Ctx):Prop:=oV (aE Y 665)
def ua (T:List D->D->Prop):Prop:=∀(v:bZ),(v.sm)->T [bZ.D v] (.str (uI v))
def C451 (Y:Ctx):Prop:=ua (aE Y 451)
def I7 (T:List D->D->Prop):Prop:=∀(h:Int) (k:Nat),(k=13)->T [.int .u64 h,.int .i64 (k:Nat)] (.int .u64 (rot h k))
def C463 (Y:Ctx):Prop:=I7 (aE Y 463)
def tM (T:List D->D->Prop):Prop:=∀(s:av),T [.sl 1 ((s).map fun b=>D.int .u8 b.toNat)] (.int .u64 (sumL s))
def C220 (Y:Ctx):Prop:=tM (aE Y 220)
def IA (T:List D->D->Prop):Prop:=∀(r:Rec) (name:av) (rng:av),(ki rng)->T [Rec.D r,.str name,.str rng] (.int .i64 (gM r name rng))
def C211 (Y:Ctx):Prop:=IA (aE Y 211)
def tZ (T:List D->D->Prop):Prop:=∀(r:Rec) (w:de) (al:Bool),(w.sm)->T [Rec.D r,de.D w,.bool al] (.int .i64 (lj r w al))
def C443 (Y:Ctx):Prop:=tZ (aE Y 443)
def tK (T:List D->D->Prop):Prop:=∀(r:Rec) (n:br),(n.sm)->T [Rec.D r,br.D n] (.int .i64 (jz r n))
def C210 (Y:Ctx):Prop:=tK (aE Y 210)
def IB (T:List D->D->Prop):Prop:=∀(r:Rec) (s:av),(rr s)->T [Rec.D r,.str s] (.int .i64 (nU r s))
def C214 (Y:Ctx):Prop:=IB (aE Y 214)
def zD (T:List D->D->Prop):Prop:=∀(r:Rec),(ic r)->T [Rec.D r] (.tup [.int .i64 (c7 r).1,.int .i64 (c7 r).2])
def C70 (Y:Ctx):Prop:=zD (aE Y 70)
def zE (T:List D->D->Prop):Prop:=∀(r:Rec),(ic r)->T [Rec.D r] (.tup [.str (fg r).1,.int .i64 (fg r).2])
def C72 (Y:Ctx):Prop:=zE (aE Y 72)
def zF (T:List D->D->Prop):Prop:=∀(r:Rec),(ic r)->T [Rec.D r] (.tup [.int .u64 (wm r),.int .i64 (fg r).2])
def C74 (Y:Ctx):Prop:=zF (aE Y 74)
def JE (T:List D->D->Prop):Prop:=∀(x:Int),T [.int .i64 x] (.bool false)
def C714 (Y:Ctx):Prop:=JE (aE Y 714)
def JD (T:List D->D->Prop):Prop:=∀(x:av),T [.str x] (.bool false)
def C704 (Y:Ctx):Prop:=JD (aE Y 704)
def ud (T:List D->D->Prop):Prop:=∀(a:Int) (b:Int),T [.int .i64 a,.int .i64 b] (.int .i64 (dq a b))
def C532 (Y:Ctx):Prop:=ud (aE Y 532)
def uc (T:List D->D->Prop):Prop:=∀(a:av) (b:av),T [.str a,.str b] (.int .i64 (pH a b))
def C516 (Y:Ctx):Prop:=uc (aE Y 516)
def Jg (T:List D->D->Prop):Prop:=∀(l:List Int),T [.sl 1 (l.map (D.int .i64))] (.int .i64 (fM (fun i=>l[i]!) 0 l.length))
def C531 (Y:Ctx):Prop:=Jg (aE Y 531)
def Jf (T:List D->D->Prop):Prop:=∀(v:bZ),T [bZ.D v] (bZ.D (rX v))
def C530 (Y:Ctx):Prop:=Jf (aE Y 530)
def uf (T:List D->D->Prop):Prop:=∀(a:av) (b:av),T [.str a,.str b] (.int .i64 (yr a b))
def C534 (Y:Ctx):Prop:=uf (aE Y 534)
def tR (T:List D->D->Prop):Prop:=∀(a:bZ) (b:bZ),(a.sm/\b.sm)->T [bZ.D a,bZ.D b] (.int .i64 (iL a b))
def SL (Y:Ctx):Prop:=tR (aE Y 295)
def uo (T:List D->D->Prop):Prop:=∀(a:bZ) (b:bZ),(a.sm/\b.sm)->T [bZ.D a,bZ.D b] (.bool (LI a b))
def C701 (Y:Ctx):Prop:=uo (aE Y 701)
def JC (T:List D->D->Prop):Prop:=∀(x:kr) (nm:av) (v:bZ),(x.r.v.sm/\v.sm)->T [kr.D x,.ref 1 [.str nm] 0 0,.ref 5 [bZ.D v] 0 0] (.bool (Ld nm v x))
def C700 (Y:Ctx):Prop:=JC (aE Y 700)
def JB (T:List D->D->Prop):Prop:=∀(l:List kr) (nm:av) (v:bZ),((∀x∈l,x.r.v.sm)/\v.sm)->T [.sl 11 (l.map kr.D),.fn 700 [.ref 1 [.str nm] 0 0,.ref 5 [bZ.D v] 0 0]] (.int .i64 (sC l nm v 0))
def C699 (Y:Ctx):Prop:=JB (aE Y 699)
def ub (T:List D->D->Prop):Prop:=∀(l:List kr) (nm:av) (v:bZ),((∀x∈l,x.r.v.sm)/\v.sm)->T [.sl 11 (l.map kr.D),.str nm,bZ.D v] (.int .i64 (sC l nm v 0))
def C511 (Y:Ctx):Prop:=ub (aE Y 511)
def tV (T:List D->D->Prop):Prop:=∀(s:bN),(∀x∈s.es,ic x.r)->T [bN.D s] (.bool (ie s))
def C353 (Y:Ctx):Prop:=tV (aE Y 353)
def JR (T:List D->D->Prop):Prop:=∀(n:Nat),(n<=9999)->T [.int .u64 (n:Nat)] (.str (nL n))
def C882 (Y:Ctx):Prop:=JR (aE Y 882)
def C734 (Y:Ctx):Prop:=oV (aE Y 734)
def C470 (Y:Ctx):Prop:=ue (aE Y 470)
def I0 (T:List D->D->Prop):Prop:=∀(c:Int),T [.int .u8 c] (.bool (jM c))
def C453 (Y:Ctx):Prop:=I0 (aE Y 453)
def I1 (T:List D->D->Prop):Prop:=∀(c:Int),T [.int .u8 c] (.bool (bK c))
def C454 (Y:Ctx):Prop:=I1 (aE Y 454)
def SN (Y:Ctx):Prop:=tT (aE Y 357)
def EA (Y:Ctx):Prop:=tI (aE Y 216)
def C667 (Y:Ctx):Prop:=uk (aE Y 667)
def C668 (Y:Ctx):Prop:=um (aE Y 668)
def Jp (T:List D->D->Prop):Prop:=∀(t:av),T [.str t] (.bool (wo t))
def C666 (Y:Ctx):Prop:=Jp (aE Y 666)
def I2 (T:List D->D->Prop):Prop:=∀(s:av) (p:Bool),(s.length<=1048576)->T [.str s,.bool p] (.bool (D2 s p))
def C456 (Y:Ctx):Prop:=I2 (aE Y 456)
def C455 (Y:Ctx):Prop:=tY (aE Y 455)
def AS (Y:Ctx):Prop:=tJ (aE Y 217)
def Ji (T:List D->D->Prop):Prop:=∀(v:bZ),(Cq v.major=true/\Cq v.minor=true/\Cq v.patch=true)->T [bZ.D v] (.str (nL v.major.toNat++[46]++nL v.minor.toNat++[46]++nL v.patch.toNat))
def C554 (Y:Ctx):Prop:=Ji (aE Y 554)
def C316 (Y:Ctx):Prop:=ua (aE Y 316)
def I8 (T:List D->D->Prop):Prop:=∀(h:Int) (n:Nat),(n<=63)->T [.int .u64 h,.int .u64 (n:Nat)] (.int .u64 (rot h n))
def C464 (Y:Ctx):Prop:=I8 (aE Y 464)
def C221 (Y:Ctx):Prop:=tM (aE Y 221)
def JL (T:List D->D->Prop):Prop:=∀(l:List av) (al:Bool),T [.sl 1 (l.map D.str),.bool al] (.bool (nB l al))
def C812 (Y:Ctx):Prop:=JL (aE Y 812)
def C669 (Y:Ctx):Prop:=tZ (aE Y 669)
def C457 (Y:Ctx):Prop:=tK (aE Y 457)
def I3 (T:List D->D->Prop):Prop:=∀(r:Rec) (b:my),(b.sm)->T [Rec.D r,my.D b] (.int .i64 (rR r b))
def C458 (Y:Ctx):Prop:=I3 (aE Y 458)
def Jq (T:List D->D->Prop):Prop:=∀(r:Rec) (x:av),T [Rec.D r,.str x] (.bool (XZ r.needs x))
def C673 (Y:Ctx):Prop:=Jq (aE Y 673)
def Jr (T:List D->D->Prop):Prop:=∀(r:Rec) (x:av),T [Rec.D r,.str x] (.bool (LW r.needs x))
def C674 (Y:Ctx):Prop:=Jr (aE Y 674)
def I4 (T:List D->D->Prop):Prop:=∀(r:Rec) (of:List av),(∀t∈of,rr t)->T [Rec.D r,.sl 1 (of.map D.str)] (.int .i64 (mC r of))
def C460 (Y:Ctx):Prop:=I4 (aE Y 460)
def I5 (T:List D->D->Prop):Prop:=∀(w:de),(w.fit)->T [de.D w] (.str (jR w))
def C461 (Y:Ctx):Prop:=I5 (aE Y 461)
def I6 (T:List D->D->Prop):Prop:=∀(s:av),(s.length<=1048576)->T [.str s] (.str (kn s))
def C462 (Y:Ctx):Prop:=I6 (aE Y 462)
def IC (T:List D->D->Prop):Prop:=∀(r:Rec),(ic r)->T [Rec.D r] (.tup [.int .i64 (ef r).1,.int .i64 (ef r).2])
def C218 (Y:Ctx):Prop:=IC (aE Y 218)
def C71 (Y:Ctx):Prop:=zD (aE Y 71)
def C73 (Y:Ctx):Prop:=zE (aE Y 73)
def C75 (Y:Ctx):Prop:=zF (aE Y 75)
def U8 (Y:Ctx):Prop:=ud (aE Y 630)
def C927 (Y:Ctx):Prop:=uc (aE Y 927)
def C783 (Y:Ctx):Prop:=uf (aE Y 783)
def Jo (T:List D->D->Prop):Prop:=∀(a:av) (b:av),(a.length<=1048576/\b.length<=1048576)->T [.str a,.str b] (.int .i64 (Bc a b))
def C631 (Y:Ctx):Prop:=Jo (aE Y 631)
def Nv (Y:Ctx):Prop:=tR (aE Y 424)
def C501 (Y:Ctx):Prop:=uo (aE Y 501)
def U7 (Y:Ctx):Prop:=ub (aE Y 580)
def SO (Y:Ctx):Prop:=tV (aE Y 358)
def IL (T:List D->D->Prop):Prop:=∀(x:bN) (s:bN),T [bN.D x,.ref 2 [bN.D s] 0 0] (.bool (Fx s.name x))
def C355 (Y:Ctx):Prop:=IL (aE Y 355)
def IK (T:List D->D->Prop):Prop:=∀(l:List bN) (s:bN),T [.sl 2 (l.map bN.D),.fn 355 [.ref 2 [bN.D s] 0 0]] (.int .i64 (mg l s.name))
def C354 (Y:Ctx):Prop:=IK (aE Y 354)
def tG (T:List D->D->Prop):Prop:=∀(l:List bN),(iP l)->T [.sl 2 (l.map bN.D)] (.bool (fJ l))
def C142 (Y:Ctx):Prop:=tG (aE Y 142)
def tW (T:List D->D->Prop):Prop:=∀(l:List bN) (nm:av),T [.sl 2 (l.map bN.D),.str nm] (.int .i64 (mg l nm))
def C359 (Y:Ctx):Prop:=tW (aE Y 359)
def U4 (Y:Ctx):Prop:=tG (aE Y 145)
def tQ (T:List D->D->Prop):Prop:=∀(s:bN) (nm:av) (v:bZ),((∀x∈s.es,ic x.r)/\v.sm)->T [bN.D s,.str nm,bZ.D v] (.int .i64 (jI s nm v))
def C274 (Y:Ctx):Prop:=tQ (aE Y 274)
def C695 (Y:Ctx):Prop:=tQ (aE Y 695)
def qm (T:List D->D->Prop):Prop:=∀(c:Cut),(c.v.sm)->T [Cut.D c] (.bool (pI c))
def Qp (Y:Ctx):Prop:=qm (aE Y 1086)
def qj (T:List D->D->Prop):Prop:=∀(a:Cut) (b:Cut),(a.v.sm/\b.v.sm)->T [Cut.D a,Cut.D b] (.int .i64 (kV a b))
def Qo (Y:Ctx):Prop:=qj (aE Y 1020)
def qk (T:List D->D->Prop):Prop:=∀(c:Cut) (v:bZ),(c.v.sm/\v.sm)->T [Cut.D c,bZ.D v] (.bool (jX c v))
def aee (Y:Ctx):Prop:=qk (aE Y 1025)
def qi (T:List D->D->Prop):Prop:=∀(s:Span),(s.sm)->T [Span.D s] (.bool (qa s))
def Kt (Y:Ctx):Prop:=qi (aE Y 1019)
def uv (T:List D->D->Prop):Prop:=∀(s:Span) (v:bZ),(s.sm/\v.sm)->T [Span.D s,bZ.D v] (.bool (sj s v))
def C926 (Y:Ctx):Prop:=uv (aE Y 926)
def uu (T:List D->D->Prop):Prop:=∀(l:List Span),(zN l)->T [.sl 14 (l.map Span.D)] (.bool (sO l))
def Vb (Y:Ctx):Prop:=uu (aE Y 916)
def ur (T:List D->D->Prop):Prop:=∀(l:List Span) (v:bZ),(zN l/\v.sm)->T [.sl 14 (l.map Span.D),bZ.D v] (.bool (vY l v))
def C782 (Y:Ctx):Prop:=ur (aE Y 782)
def Jk (T:List D->D->Prop):Prop:=∀(v:bZ),T [bZ.D v] (.bool (vL v))
def C600 (Y:Ctx):Prop:=Jk (aE Y 600)
def JX (T:List D->D->Prop):Prop:=∀(c:Cut),T [Cut.D c] (.bool (mH c))
def C917 (Y:Ctx):Prop:=JX (aE Y 917)
def uq (T:List D->D->Prop):Prop:=∀(s:cy),(s.sm)->T [cy.D s] (.bool (wc s))
def U9 (Y:Ctx):Prop:=uq (aE Y 770)
def uj (T:List D->D->Prop):Prop:=∀(s:cy) (v:bZ),(s.sm/\v.sm)->T [cy.D s,bZ.D v] (.bool (pM s v))
def C627 (Y:Ctx):Prop:=uj (aE Y 627)
def SB (T:List D->D->Prop):Prop:=T [] (cy.D Rw)
def C375 (Y:Ctx):Prop:=SB (aE Y 375)
def ad5 (T:List D->D->Prop):Prop:=T [] (cy.D pD)
def C374 (Y:Ctx):Prop:=ad5 (aE Y 374)
section
section
variable {Y:Ctx} {draw:Bool} {r:List GI} {env rs:List aX} {nx:Nat} {m:List (Nat×bm)} {K:List aX->St->Prop} {f:Bool} {g:Option (Nat×Bool)}
end
def ZV {α:Type}{q:α->D}{xs:List α}{m:List (Nat×bm)}{l k:Nat}{sh:List Sh}(hq:∀x,xV m sh (q x)=q x)(hl:look m l=some (.buf k (xs.map q))):xV m [.sl k sh] (.own l k 0 xs.length)=.sl k (xs.map q):=by
 show D.sl k _=_;simp only[aH,hl,cT,bw,List.map_map];congr 1;apply List.map_congr_left;intro x _;have:=hq x;simp only[Function.comp];generalize q x=d at this;cases d<;>exact this
def Sp {α:Type}{q:α->D}{xs:List α}{m:List (Nat×bm)}{l k:Nat}{sh:List Sh}(hq:∀x,xVO m sh (q x))(hl:look m l=some (.buf k (xs.map q))):xVO m [.sl k sh] (.own l k 0 xs.length):=by
 refine⟨by simp only[dW,hl];exact⟨trivial,aG⟩,fun e he=>?_⟩;simp only[aH,hl,cT,bw,cC]at he;obtain⟨x,_,rfl⟩:=he;have:=hq x;generalize q x=d at this;cases d<;>exact this
end
def Qq (Y:Ctx):Prop:=qm (aE Y 1087)
def U1 (Y:Ctx):Prop:=qj (aE Y 1024)
def aef (Y:Ctx):Prop:=qk (aE Y 1055)
def U0 (Y:Ctx):Prop:=qi (aE Y 1023)
def C980 (Y:Ctx):Prop:=uv (aE Y 980)
def C925 (Y:Ctx):Prop:=uu (aE Y 925)
def C861 (Y:Ctx):Prop:=ur (aE Y 861)
def JY (T:List D->D->Prop):Prop:=∀(c:Cut),T [Cut.D c] (.bool (rC c))
def C924 (Y:Ctx):Prop:=JY (aE Y 924)
def C780 (Y:Ctx):Prop:=uq (aE Y 780)
def C712 (Y:Ctx):Prop:=uj (aE Y 712)
def IS (T:List D->D->Prop):Prop:=∀(a:Key) (b:Key),T [Key.D a,Key.D b] (.int .i64 (Hu a b))
def C408 (Y:Ctx):Prop:=IS (aE Y 408)
def Jn (T:List D->D->Prop):Prop:=∀(l:List Want) (n:Int),(∀x∈l,x.sm)->T [.sl 3 (l.map Want.D),.int .i64 n] (.bool (pn n l))
def C622 (Y:Ctx):Prop:=Jn (aE Y 622)
def JK (T:List D->D->Prop):Prop:=∀(w:Want) (n:Int),(w.sm)->T [Want.D w,.int .i64 n] (.bool (sT n w))
def C778 (Y:Ctx):Prop:=JK (aE Y 778)
def JJ (T:List D->D->Prop):Prop:=∀(l:List Want) (n:Int),(∀x∈l,x.sm)->T [.sl 3 (l.map Want.D),.int .i64 n] (.bool (rB n l))
def C777 (Y:Ctx):Prop:=JJ (aE Y 777)
def Jm (T:List D->D->Prop):Prop:=∀(c:ei) (n:Int),(c.sm)->T [ei.D c,.int .i64 n] (.bool (gy c.v&&mM n c))
def C618 (Y:Ctx):Prop:=Jm (aE Y 618)
def IU (T:List D->D->Prop):Prop:=∀(c:ei) (n:Int),(c.sm)->T [ei.D c,.int .i64 n] (.bool (mM n c))
def C409 (Y:Ctx):Prop:=IU (aE Y 409)
def Jl (T:List D->D->Prop):Prop:=∀(a:c9) (b:c9),T [c9.D a,c9.D b] (.bool (kA a b))
def C617 (Y:Ctx):Prop:=Jl (aE Y 617)
def IQ (T:List D->D->Prop):Prop:=∀(w:b6) (i:Int),(w.sm/\(0<=i/\i<w.us.length)/\w.us.length<=48)->T [b6.D w,.int .i64 i] (.bool (sR w.us i.toNat))
def C403 (Y:Ctx):Prop:=IQ (aE Y 403)
def tH (T:List D->D->Prop):Prop:=∀(w:b6),(w.sm)->T [b6.D w] (.bool (fN w))
def C169 (Y:Ctx):Prop:=tH (aE Y 169)
def C175 (Y:Ctx):Prop:=tH (aE Y 175)
def Je (T:List D->D->Prop):Prop:=∀(w:b6) (c:List Int),(w.sm)->T [b6.D w,.sl 1 (c.map (D.int .i64))] (.bool (xb w c))
def C510 (Y:Ctx):Prop:=Je (aE Y 510)
def tP (T:List D->D->Prop):Prop:=∀(w:b6) (c:List Int),(w.sm)->T [b6.D w,.sl 1 (c.map (D.int .i64))] (.bool (ik w c))
def C273 (Y:Ctx):Prop:=tP (aE Y 273)
def ui (T:List D->D->Prop):Prop:=∀(w:b6) (c:List Int) (x:Want),(MetW w c x)->T [b6.D w,.sl 1 (c.map (D.int .i64)),Want.D x] (.bool (qH w c x))
def C624 (Y:Ctx):Prop:=ui (aE Y 624)
def uh (T:List D->D->Prop):Prop:=∀(w:b6) (c:List Int) (l:List Want),(∀x∈l,MetW w c x)->T [b6.D w,.sl 1 (c.map (D.int .i64)),.sl 3 (l.map Want.D)] (.bool (E6 w c l))
def C623 (Y:Ctx):Prop:=uh (aE Y 623)
def U5 (Y:Ctx):Prop:=tP (aE Y 170)
def C629 (Y:Ctx):Prop:=ui (aE Y 629)
def C628 (Y:Ctx):Prop:=uh (aE Y 628)
def tX (T:List D->D->Prop):Prop:=∀(w:b6) (c:List Int),(WrgP w c)->T [b6.D w,.sl 1 (c.map (D.int .i64))] (.sl 3 ((mq w c).map wC.D))
def C410 (Y:Ctx):Prop:=tX (aE Y 410)
def IX (T:List D->D->Prop):Prop:=∀(w:b6) (c:List Int) (u:Nat),(OneP w c u)->T [b6.D w,.sl 1 (c.map (D.int .i64)),.int .i64 ((u:Nat):Int)] (.sl 3 ((A9 w c u).map wC.D))
def C417 (Y:Ctx):Prop:=IX (aE Y 417)
def C186 (Y:Ctx):Prop:=tX (aE Y 186)
def P5 (T:List D->D->Prop):Prop:=∀(w:b6) (c:List Int),(WrgP w c)->T [b6.D w,.sl 1 (c.map (D.int .i64))] (.bool (ik w c&&decide ((mq w c).length=0)))
def C52 (Y:Ctx):Prop:=P5 (aE Y 52)
def Jy (T:List D->D->Prop):Prop:=∀(w:b6) (a:av) (b:av),T [b6.D w,.str a,.str b] (.int .i64 (il w.us a b))
def C696 (Y:Ctx):Prop:=Jy (aE Y 696)
def Jz (T:List D->D->Prop):Prop:=∀(w:b6) (u:Int) (v:bZ) (whole:Bool),((w.sm/\v.sm)/\u<w.us.length)->T [b6.D w,.int .i64 u,bZ.D v,.bool whole] (.int .i64 (mF w.us u v whole))
def C697 (Y:Ctx):Prop:=Jz (aE Y 697)
def Jd (T:List D->D->Prop):Prop:=∀(s:bN) (nm:av) (v:bZ),((∀x∈s.es,ic x.r)/\v.sm)->T [bN.D s,.str nm,bZ.D v] (.tup [kr.D (oC s nm v).1,.bool (oC s nm v).2])
def C508 (Y:Ctx):Prop:=Jd (aE Y 508)
def JA (T:List D->D->Prop):Prop:=∀(shop:List bN) (c:ei) (x:dm),(iP shop/\x.v.sm)->T [.sl 2 (shop.map bN.D),ei.D c,dm.D x] (.int .i64 (ny shop c x))
def C698 (Y:Ctx):Prop:=JA (aE Y 698)
def C509 (Y:Ctx):Prop:=∀(shop:List bN) (w:b6) (x:dm) (c:List Int),LinP shop w x c->∀(nx lc:Nat) (m:List (Nat×bm)) (K:D->St->Prop),lc<nx->look m lc=some (.buf 1 (c.map (D.int .i64)))->K (.int .i64 (kN shop w.us x c).1) ⟨nx,cL m lc (.buf 1 ((kN shop w.us x c).2.map (D.int .i64)))⟩->Y.tr 509 [.sl 2 (shop.map bN.D),b6.D w,.own lc 1 0 w.us.length,dm.D x] ⟨nx,m⟩ K
def Jt (T:List D->D->Prop):Prop:=∀(c:ei) (x:dm),(c.v.sm/\x.v.sm)->T [ei.D c,.ref 9 [dm.D x] 0 0] (.bool (Tx x.v true c))
def C690 (Y:Ctx):Prop:=Jt (aE Y 690)
def Ju (T:List D->D->Prop):Prop:=∀(c:ei) (x:dm),(c.v.sm/\x.v.sm)->T [ei.D c,.ref 9 [dm.D x] 0 0] (.bool (Tx x.v false c))
def C691 (Y:Ctx):Prop:=Ju (aE Y 691)
def Js (T:List D->D->Prop):Prop:=∀(l:List ei) (b:Bool) (x:dm),((∀c∈l,c.v.sm)/\x.v.sm)->T [.sl 8 (l.map ei.D),.fn (bif b then 690 else 691) [.ref 9 [dm.D x] 0 0]] (.int .i64 (fY (Tx x.v b) l 0))
def C689 (Y:Ctx):Prop:=Js (aE Y 689)
def C502 (Y:Ctx):Prop:=∀(shop:List bN) (w:b6) (x:dm) (c:List Int) (kvs:List D),LinP shop w x c->Vo w.us kvs->∀(nx lm lc:Nat) (m:List (Nat×bm)) (K:D->St->Prop),lc<nx->lm<nx->look m lc=some (.buf 1 (c.map (D.int .i64)))->look m lm=some (.mpb kvs)->K (.int .i64 (kN shop w.us x c).1) ⟨nx,cL m lc (.buf 1 ((kN shop w.us x c).2.map (D.int .i64)))⟩->Y.tr 502 [.agg [.sl 2 (shop.map bN.D),.sl 3 (w.us.map c9.D),.fn 5000000 [.it lm],.own lc 1 0 w.us.length],dm.D x] ⟨nx,m⟩ K
def tF (T:List D->D->Prop):Prop:=∀(e:Env),T [Env.D e] (.bool (o8 e))
def C138 (Y:Ctx):Prop:=tF (aE Y 138)
def ug (T:List D->D->Prop):Prop:=∀(x:dm),(x.sm)->T [dm.D x] (.bool (A6 x))
def C553 (Y:Ctx):Prop:=ug (aE Y 553)
def tS (T:List D->D->Prop):Prop:=∀(l:jT),(l.sm)->T [jT.D l] (.bool (EO l))
def C315 (Y:Ctx):Prop:=tS (aE Y 315)
def Nu (Y:Ctx):Prop:=tF (aE Y 144)
def C418 (Y:Ctx):Prop:=ug (aE Y 418)
def C189 (Y:Ctx):Prop:=tS (aE Y 189)
def tO (T:List D->D->Prop):Prop:=∀(shop:List bN) (e:Env) (w:b6) (l:jT),(ChoP shop w l)->T [.sl 2 (shop.map bN.D),Env.D e,b6.D w,jT.D l] (.tup [.sl 1 ((ja shop e w l).1.map (D.int .i64)),.int .i64 (ja shop e w l).2.1,.str (ja shop e w l).2.2])
def C271 (Y:Ctx):Prop:=tO (aE Y 271)
def C264 (Y:Ctx):Prop:=tO (aE Y 264)
def tN (T:List D->D->Prop):Prop:=∀(shop:List bN) (e:Env) (w:b6) (l:jT),(ChoP shop w l)->T [.sl 2 (shop.map bN.D),Env.D e,b6.D w,jT.D l] (.tup [.int .i64 (B7 shop e w l).1,.str (B7 shop e w l).2])
def C265 (Y:Ctx):Prop:=tN (aE Y 265)
def C272 (Y:Ctx):Prop:=tN (aE Y 272)
def P1 (T:List D->D->Prop):Prop:=∀(v:Int) (n:Int),(n<=9223372036854775807)->T [.int .i64 v,.int .i64 n] (.int .i64 (bY v n))
def C25 (Y:Ctx):Prop:=P1 (aE Y 25)
def Ix (T:List D->D->Prop):Prop:=∀(l:List Int) (i:Int),T [.sl 1 (l.map (D.int .i64)),.int .i64 i] (.int .i64 (atI l i))
def C159 (Y:Ctx):Prop:=Ix (aE Y 159)
def GB (Y:Ctx):Prop:=∀(g:Gs) (n:Int),(n<=9223372036854775807)->(0<=g.i/\g.i<=1000000)->Y.fp 109 (Gs.D g) [.int .i64 n]/\Y.fv 109 (Gs.D g) [.int .i64 n]=.int .i64 (g.val n)/\Y.fs 109 (Gs.D g) [.int .i64 n]=Gs.D g.aS
def Su (T:List D->D->Prop):Prop:=T [] (.sl 5 (bU.map bZ.D))
def C112 (Y:Ctx):Prop:=Su (aE Y 112)
def Ss (T:List D->D->Prop):Prop:=T [] (.sl 1 (cF.map D.str))
def C111 (Y:Ctx):Prop:=Ss (aE Y 111)
def Sw (T:List D->D->Prop):Prop:=T [] (.sl 1 (j2.map D.str))
def C135 (Y:Ctx):Prop:=Sw (aE Y 135)
def Jh (T:List D->D->Prop):Prop:=∀(l:List av) (s:av),T [.sl 1 (l.map D.str),.str s] (.int .i64 (EK l s))
def C536 (Y:Ctx):Prop:=Jh (aE Y 536)
def C297 (Y:Ctx):Prop:=∀(g:Gs) (own:av),(0<=g.i/\g.i<=990000)->Y.fp 297 (Gs.D g) [.str own]/\Y.fv 297 (Gs.D g) [.str own]=.str (cS g own).1/\Y.fs 297 (Gs.D g) [.str own]=Gs.D (cS g own).2
def C535 (Y:Ctx):Prop:=∀(g:Gs) (own:av),(0<=g.i/\g.i<=990000)->Y.fp 535 (Gs.D g) [.str own]/\Y.fv 535 (Gs.D g) [.str own]=de.D (dG g own).1/\Y.fs 535 (Gs.D g) [.str own]=Gs.D (dG g own).2
def C296 (Y:Ctx):Prop:=∀(g:Gs) (own:av),(0<=g.i/\g.i<=980000)->Y.fp 296 (Gs.D g) [.str own]/\Y.fv 296 (Gs.D g) [.str own]=br.D (mb g own).1/\Y.fs 296 (Gs.D g) [.str own]=Gs.D (mb g own).2
def C298 (Y:Ctx):Prop:=∀(g:Gs) (l:List br),(0<=g.i/\g.i<=980000)->((∀n∈l,n.sm)/\l.length<=1000)->Y.fp 298 (Gs.D g) [.sl 3 (l.map br.D)]/\Y.fv 298 (Gs.D g) [.sl 3 (l.map br.D)]=ch.D (mN g l).1/\Y.fs 298 (Gs.D g) [.sl 3 (l.map br.D)]=Gs.D (mN g l).2
def C110 (Y:Ctx):Prop:=∀(g:Gs) (nm:av) (v:bZ) (most:Int),(0<=g.i/\g.i<=970000)->(0<=most/\most<=100)->Y.fp 110 (Gs.D g) [.str nm,bZ.D v,.int .i64 most]/\Y.fv 110 (Gs.D g) [.str nm,bZ.D v,.int .i64 most]=Rec.D (pj g nm v most).1/\Y.fs 110 (Gs.D g) [.str nm,bZ.D v,.int .i64 most]=Gs.D (pj g nm v most).2
def Ja (T:List D->D->Prop):Prop:=∀(s:bN) (r:Rec),((∀x∈s.es,ic x.r)/\ic r)->T [bN.D s,Rec.D r] (.tup [bN.D (kO s r).1,.int .i64 (kO s r).2])
def C504 (Y:Ctx):Prop:=Ja (aE Y 504)
def I9 (T:List D->D->Prop):Prop:=∀(s:bN) (nm:av) (v:bZ) (on:Bool),((∀x∈s.es,ic x.r)/\v.sm)->T [bN.D s,.str nm,bZ.D v,.bool on] (.tup [bN.D (ow s nm v on).1,.int .i64 (ow s nm v on).2])
def C503 (Y:Ctx):Prop:=I9 (aE Y 503)
def Iv (T:List D->D->Prop):Prop:=∀(a:List Int) (b:List Int),T [.sl 1 (a.map (D.int .i64)),.sl 1 (b.map (D.int .i64))] (.bool (decide (a=b)))
def C153 (Y:Ctx):Prop:=Iv (aE Y 153)
def C266 (Y:Ctx):Prop:=∀(g:Gs) (l:List bN),(0<=g.i/\g.i<=960000)->(iP l/\1<=l.length/\l.length<=100)->Y.fp 266 (Gs.D g) [.sl 2 (l.map bN.D)]/\Y.fv 266 (Gs.D g) [.sl 2 (l.map bN.D)]=.sl 2 ((lG g l).1.map bN.D)/\Y.fs 266 (Gs.D g) [.sl 2 (l.map bN.D)]=Gs.D (lG g l).2
def P6 (T:List D->D->Prop):Prop:=∀(ks:List Int) (most:Int),(0<=most/\most<=100)->T [.sl 1 (ks.map (D.int .i64)),.int .i64 most] (.sl 2 ((en ks most).map bN.D))
def C90 (Y:Ctx):Prop:=P6 (aE Y 90)
def Qa (T:List D->D->Prop):Prop:=∀(shop:List bN) (e:Env) (w:b6) (l:jT),(ChoP shop w l)->T [.sl 2 (shop.map bN.D),Env.D e,b6.D w,jT.D l] (.bool true)
def C94 (Y:Ctx):Prop:=Qa (aE Y 94)
def P3 (T:List D->D->Prop):Prop:=∀(n:Int),T [.int .i64 n] (Env.D (ff n))
def C29 (Y:Ctx):Prop:=P3 (aE Y 29)
def eZ:Env:=⟨[],[],[]⟩
def Qv:b6:=⟨[⟨[],[],[⟨zV,-1,[],[]⟩]⟩]⟩
def antL:dm:=⟨[97,110,116],zV,[],0,[]⟩
def awk_1:ja [] eZ Qv ⟨eZ,[]⟩=([0],0,[]):=by decide+kernel
def awk_2:B7 [] eZ Qv ⟨eZ,[]⟩=(0,[]):=by decide+kernel
def awk_3:B7 [] eZ Qv ⟨ff 1,[]⟩=(34,[]):=by decide+kernel
def awk_4:B7 [] eZ Qv ⟨eZ,[antL]⟩=(9,[97,110,116]):=by decide+kernel
def agO:Qv.sm:=by
 intro u hu;rw[aC.1 hu];refine⟨aT,fun c hc=>?_⟩;rw[aC.1 hc];exact⟨⟨aT,aT⟩,fun _ h=>ca,fun _ h=>ca⟩
def Qw {l:jT}(h:l.sm):ChoP [] Qv l:=⟨(fun _ h=>ca),agO,h⟩
def ah8 (n:Int):∀i,((ff n).at i).length<=1048576:=by
 intro i;have h:(Fm[(bY n 3).toNat]!).length<=1048576:=nT (P:=fun s:av=>s.length<=1048576) aT aT _;unfold ff Env.at
 grind
def Z3 (T:List D->D->Prop):Prop:=T [] (.bool true)
def C89 (Y:Ctx):Prop:=Z3 (aE Y 89)
end Go.Abs
