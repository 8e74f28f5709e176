/- A part of the proofs. -/
import Derived.Test.YtfijeeijkndliaaGreatDoorP04
set_option linter.all false
set_option maxRecDepth 60000
set_option maxHeartbeats 2000000
namespace Go.Abs
section
abbrev RT:=List D->D->Prop
abbrev FT:=D->List D->D->D->Prop
abbrev TT:=List D->St->(D->St->Prop)->Prop
def Lg (T:TT):Prop:=∀ds st K K',(∀d st',K d st'->K' d st')->T ds st K->T ds st K'
def xW (A:RT->Prop):RT:=fun ds d=>∀T,A T->T ds d
def ik (A:FT->Prop):FT:=fun d ds v s=>∀T,A T->T d ds v s
def abQ (T:TT):Ctx:=⟨fun _ _=>False,fun _ _=>.any,fun _=>T,fun _ _ _=>False,fun _ _ _=>.any,fun _ _ _=>.any,0⟩
def Sm (C:Ctx->Prop):TT:=fun ds st K=>∀T,Lg T->C (abQ T)->T ds st K
def BX (C:Ctx->Prop):Lg (Sm C):=fun _ _ _ _ h h1 T hT hC=>hT _ _ _ _ h (h1 T hT hC)
def noR:RT:=fun _ _=>False
def noF:FT:=fun _ _ _ _=>False
def noT:TT:=fun _ _ _=>False
def Fx:Lg noT:=fun _ _ _ _ _ h=>h.elim
structure rv where
 key:Nat
 rel:RT
 mu:List D->Nat
 relF:FT
 tr:TT
 muE:List D->St->Nat
 mono:Lg tr
def mu0:List D->Nat:=fun _=>0
def aav:List D->St->Nat:=fun _ _=>0
def jT:rv:=⟨0,noR,mu0,noF,noT,aav,Fx⟩
def rP (k:Nat)(A:RT->Prop)(mu:List D->Nat:=mu0):rv:=⟨k,xW A,mu,noF,noT,aav,Fx⟩
def rF (k:Nat)(A:FT->Prop):rv:=⟨k,noR,mu0,ik A,noT,aav,Fx⟩
def rG (k:Nat)(C:Ctx->Prop)(mu:List D->St->Nat:=aav):rv:=⟨k,noR,mu0,noF,Sm C,mu,BX C⟩
def rFG (k:Nat)(A:FT->Prop)(C:Ctx->Prop):rv:=⟨k,noR,mu0,ik A,Sm C,aav,BX C⟩
noncomputable def pick (r:D->Prop):D:=Classical.epsilon r
def nF {r:D->Prop}(h:∃d,r d):r (pick r):=Classical.epsilon_spec h
def Det (R:RT):Prop:=∀ds d d',R ds d->R ds d'->d=d'
def qd (R:FT):Prop:=∀d ds v s v' s',R d ds v s->R d ds v' s'->v=v'/\s=s'
def ah2 {A:RT->Prop}(h:A fun ds d=>A fun ds' d'=>ds'=ds->d=d'):Det (xW A):=fun ds d d' h1 h2=>h2 _ (h1 _ h) rfl
def acM {A:FT->Prop}(h:A fun d ds v s=>A fun d' ds' v' s'=>d'=d->ds'=ds->v=v'/\s=s'):qd (ik A):=fun d ds v s v' s' h1 h2=>h2 _ (h1 _ h) rfl rfl
noncomputable def sT (t:List (Nat×rv)):Ctx where
 pre n ds:=∃d,(lk t n jT).rel ds d
 val n ds:=pick ((lk t n jT).rel ds)
 tr n:=(lk t n jT).tr
 fp n d ds:=∃v s,(lk t n jT).relF d ds v s
 fv n d ds:=pick fun v=>∃s,(lk t n jT).relF d ds v s
 fs n d ds:=pick fun s=>∃v,(lk t n jT).relF d ds v s
 lo:=0
def abm (t:List (Nat×rv)):Rank:=⟨fun n=>(lk t n jT).key,fun n=>(lk t n jT).mu,fun n=>(lk t n jT).muE⟩
noncomputable abbrev under (t:List (Nat×rv))(k u:Nat):Ctx:=(sT t).under (abm t) k u
def zA (t:List (Nat×rv))(k u n:Nat):(((sT t).under (abm t) k u).at n).cP:=
 fun f ds st K K' h hh=>⟨hh.1,(lk t f jT).mono ds st K K' h hh.2⟩
section
variable {t:List (Nat×rv)} {n k u:Nat} {ds:List D} {d v s:D} {st:St} {K:D->St->Prop}
def G9 (hD:Det (lk t n jT).rel)(hk:(lk t n jT).key<k\/(lk t n jT).key=k/\(lk t n jT).mu ds<u)(h:(lk t n jT).rel ds d):(under t k u).pre n ds/\(under t k u).val n ds=d:=
 ⟨⟨hk,d,h⟩,hD _ _ _ (nF ⟨d,h⟩) h⟩
def NQ (hD:qd (lk t n jT).relF)(hk:(lk t n jT).key<k)(h:(lk t n jT).relF d ds v s):(under t k u).fp n d ds/\(under t k u).fv n d ds=v/\(under t k u).fs n d ds=s:=by
 refine⟨⟨.inl hk,v,s,h⟩, ?_, ?_⟩
 .obtain⟨s',h'⟩:=nF (r:=fun v=>∃s,(lk t n jT).relF d ds v s) ⟨v,s,h⟩;exact(hD _ _ _ _ _ _ h' h).1
 .obtain⟨v',h'⟩:=nF (r:=fun s=>∃v,(lk t n jT).relF d ds v s) ⟨s,v,h⟩;exact(hD _ _ _ _ _ _ h' h).2
def fU (hk:(lk t n jT).key<k\/(lk t n jT).key=k/\(lk t n jT).muE ds st<u)(h:(lk t n jT).tr ds st K):(under t k u).tr n ds st K:=⟨hk,h⟩
end
section
variable [df] {P:Program} {ν:List (Nat×Nat)} {dr:List Nat} {Y:Ctx} {t:List (Nat×rv)} {fid n key:Nat}
def TH (P:Program)(ν:List (Nat×Nat))(dr:List Nat)(Y:Ctx)(fid:Nat)(ds:List D)(d:D):Prop:=Ok P ν dr Y->∀(x:X) (args:Array Value),args.size=ds.length->(∀i,i<ds.length->RD ν x (args.getD i undef) (ds.getD i .any))->bK ds=true->
  (∀b,x.I b->b<x.w.heap.size)->df.gd x->iu P x (fun v x'=>gW x x'/\RD ν x' v d) ((callFunc fid args).run P x.w)
def Hl (P:Program)(ν:List (Nat×Nat))(dr:List Nat)(Y:Ctx)(fid:Nat)(d:D)(ds:List D)(vd new:D):Prop:=Ok P ν dr Y->∀(x:X) (f:Nat->Option cr) (args:Array Value) (l k:Nat),args.size=ds.length+1->
   RD ν x (args.getD 0 undef) (.ptr l k 0 0)->(∀i,i<ds.length->RD ν x (args.getD (i+1) undef) (ds.getD i .any))->ie ν x f->f l=some (.buf k [d])->d.bN=true->bK ds=true->
   iu P x (fun v x'=>Step x x'/\RD ν x' v vd/\ie ν x' (fun l'=>if l'=l then some (.buf k [new])else f l')/\x'.β=x.β) ((callFunc fid args).run P x.w)
def qU (P:Program)(ν:List (Nat×Nat))(dr:List Nat)(Y:Ctx)(fid:Nat)(ds:List D)(st:St)(K:D->St->Prop):Prop:=Ok P ν dr Y->∀(x:X) (args:Array Value),args.size=ds.length->(∀i,i<ds.length->RD ν x (args.getD i undef) (ds.getD i .any))->ie ν x (look st.m)->ic st x->
  iu P x (fun v x'=>∃d st',K d st'/\Step x x'/\RD ν x' v d/\ie ν x' (look st'.m)/\ic st' x') ((callFunc fid args).run P x.w)
structure Owe (P:Program)(ν:List (Nat×Nat))(dr:List Nat)(t:List (Nat×rv))(fid n:Nat):Prop where
 p:∀ds d,(lk t n jT).rel ds d->TH P ν dr (under t (lk t n jT).key ((lk t n jT).mu ds)) fid ds d
 f:qd (lk t n jT).relF/\∀d ds v s,(lk t n jT).relF d ds v s->Hl P ν dr (under t (lk t n jT).key ((lk t n jT).mu (d::ds))) fid d ds v s
 g:∀ds st K,(lk t n jT).tr ds st K->qU P ν dr (under t (lk t n jT).key ((lk t n jT).muE ds st)) fid ds st K
def okA (hsm:∀fid n,dI ν fid=some n->n<1000000)(hB:∀t,dr.contains (1000000000+t)=true->t=df.tB)(h:∀fid n,dI ν fid=some n->Owe P ν dr t fid n):Ok P ν dr (sT t):=by
 refine ok_of (abm t) hsm hB (fun fid n hn ds hp hok=>(h fid n hn).p ds _ (nF hp) hok) (fun fid n hn _ d ds hp hok=>?_) (fun fid n hn ds st K htr hok=>(h fid n hn).g ds st K htr hok);obtain⟨v,s,hr⟩:=hp;obtain⟨hD,hf⟩:=(h fid n hn).f;have h2:(sT t).fv n d ds=v/\(sT t).fs n d ds=s:=by
  constructor
  .obtain⟨s',h'⟩:=nF (r:=fun v=>∃s,(lk t n jT).relF d ds v s) ⟨v,s,hr⟩;exact(hD _ _ _ _ _ _ h' hr).1
  .obtain⟨v',h'⟩:=nF (r:=fun s=>∃v,(lk t n jT).relF d ds v s) ⟨s,v,hr⟩;exact(hD _ _ _ _ _ _ h' hr).2
 rw[h2.1,h2.2];exact hf d ds v s hr hok
def Ux {Y:D->List D->Ctx}:qd noF/\∀d ds v s,noF d ds v s->Hl P ν dr (Y d ds) fid d ds v s:=⟨fun _ _ _ _ _ _ h=>h.elim,fun _ _ _ _ h=>h.elim⟩
def aA {A:RT->Prop}{mu:List D->Nat}(hr:lk t n jT=rP key A mu)(h:A fun ds d=>TH P ν dr (under t key (mu ds)) fid ds d):Owe P ν dr t fid n:=by
 refine⟨?_, ?_, ?_⟩<;>rw[hr]
 .exact fun ds d hd=>hd (fun ds d=>TH P ν dr (under t key (mu ds)) fid ds d) h
 .exact Ux
 .exact fun _ _ _ h=>h.elim
def Cz {A:FT->Prop}(hr:lk t n jT=rF key A)(hD:qd (ik A))(h:A fun d ds v s=>Hl P ν dr (under t key 0) fid d ds v s):Owe P ν dr t fid n:=by
 refine⟨?_, ?_, ?_⟩<;>rw[hr]
 .exact fun _ _ h=>h.elim
 .exact⟨hD,fun d ds v s hd=>hd _ h⟩
 .exact fun _ _ _ h=>h.elim
def HL {Y:List D->St->Ctx}:Lg fun ds st K=>qU P ν dr (Y ds st) fid ds st K:=fun ds st K K' h hg hok x args hl ha hs hf=>(hg hok x args hl ha hs hf).mono fun v x' ⟨d,st',h1,h2⟩=>⟨d,st',h _ _ h1,h2⟩
def dn {C:Ctx->Prop}{mu:List D->St->Nat}(hr:lk t n jT=rG key C mu)(h:C (abQ fun ds st K=>qU P ν dr (under t key (mu ds st)) fid ds st K)):Owe P ν dr t fid n:=by
 refine⟨?_, ?_, ?_⟩<;>rw[hr]
 .exact fun _ _ h=>h.elim
 .exact Ux
 .exact fun ds st K hd=>hd (fun ds st K=>qU P ν dr (under t key (mu ds st)) fid ds st K) HL h
def UC {A:FT->Prop}{C:Ctx->Prop}(hr:lk t n jT=rFG key A C)(hD:qd (ik A))(h:A fun d ds v s=>Hl P ν dr (under t key 0) fid d ds v s)(h2:C (abQ fun ds st K=>qU P ν dr (under t key 0) fid ds st K)):Owe P ν dr t fid n:=by
 refine⟨?_, ?_, ?_⟩<;>rw[hr]
 .exact fun _ _ h=>h.elim
 .exact⟨hD,fun d ds v s hd=>hd _ h⟩
 .exact fun ds st K hd=>hd _ HL h2
def Lb (P:Program)(ν:List (Nat×Nat))(dr:List Nat)(fid:Nat)(af:aN):Prop:=(P.funcs[fid]?).map (fun f=>(compile P ν dr f,f.name== "runtime.NumGoroutine"))=some (some af,false)
def Lb.split {af:aN}(h:Lb P ν dr fid af):∃fn,P.funcs[fid]? =some fn/\compile P ν dr fn=some af/\(fn.name== "runtime.NumGoroutine")=false:=by
 grind [Lb]
def aj {af:aN}{ds:List D}{d:D}(hmix:P.follows .mixedOrders=true)(hC:Lb P ν dr fid af)(h1:ds.length=af.np)(h2:cg (Y.at 0) af.body (Res af d) (gz af ds) ⟨0,[]⟩):TH P ν dr Y fid ds d:=by
 intro hok x args hl hargs hnl himm hgd;obtain⟨fn,hf,hc,hn⟩:=hC.split;obtain⟨body,c1,_⟩:=kp hc;exact .inr ⟨fid,args,gx hf hn (by rw[c1];rfl) args x.w,acU hok hmix hf hc hl hargs hnl himm hgd h1 h2⟩
def lL {af:aN}{d:D}{ds:List D}{vd new:D}(k0:Nat)(hmix:P.follows .mixedOrders=true)(hC:Lb P ν dr fid af)(h1:ds.length+1=af.np)(hk:d.cells.length=k0)
  (h2:cg (Y.at 1) af.body (VW af k0 vd new) (gz af (.ptr 0 k0 0 0::ds)) ⟨1,[(0,.buf k0 [d])]⟩):Hl P ν dr Y fid d ds vd new:=by
 intro hok x f args l k hl h0 hargs hs hfl hd hnl;obtain⟨fn,hf,hc,hn⟩:=hC.split;obtain⟨body,c1,_⟩:=kp hc;have hkk:k=k0:=by
  generalize args.getD 0 undef=v0 at h0;cases h0 with
  |ptr _ _ _ _ b base tot at_ hβ hat=>
   obtain⟨p1,p2,c,T,fr,p3,p4,p5,p6⟩:=(hs.own l _ b base tot hfl hβ).2;have:=(p6 0 aI).1
   grind
 subst hkk;exact .inr ⟨fid,args,gx hf hn (by rw[c1];rfl) args x.w,acS hok hmix hf hc hl h0 hargs hs hfl hd hnl h1 h2⟩
def CR {k l:Nat}{d:D}{ds:List D}{vd new:D}{st:St}{K:D->St->Prop}(h:Hl P ν dr Y fid d ds vd new)(hl:look st.m l=some (.buf k [d]))(hd:d.bN=true)(hnl:bK ds=true)(hK:K vd ⟨st.nx,ep st.m l (.buf k [new])⟩):
  qU P ν dr Y fid (.ptr l k 0 0::ds) st K:=by
 intro hok x args hl2 hargs hs hf;refine(h hok x (look st.m) args l k (by simpa using hl2) (hargs 0 aI) (fun i hi=>hargs (i+1) (by simpa using hi)) hs hl hd hnl).mono ?_;rintro v x' ⟨h1,h2,h3,h4⟩;have e:(fun l'=>if l'=l then some (.buf k [new])else look st.m l')=look (ep st.m l (.buf k [new])):=by
  funext l';rw[dc]
 refine⟨vd,_,hK,h1,h2,e▸h3,fun l' hl'=>by rw[h4];exact hf.β l' hl',fun l' hl'=>?_⟩;rw[dc]at hl';split at hl'
 .rename_i e;subst e;exact hf.m _ (by rw[hl];simp)
 .exact hf.m _ hl'
def BV {af:aN}{ds:List D}{st:St}{K:D->St->Prop}{σi:List (Nat×Nat)}{q:Nat}{m0:List (Nat×cr)}{cs:List D}{Q:D->List (Nat×cr)->Prop}(hmono:∀q,(Y.at q).cP)(hmix:P.follows .mixedOrders=true)(hC:Lb P ν dr fid af)
  (h1:cs.length=ds.length) (h2:∀i,i<ds.length->Zr 0 σi (ds.getD i .any) (cs.getD i .any)) (h3:cs.length=af.np)
  (h4:jg 0 q σi=true) (h5:∀l i,(l,i)∈σi->look st.m l≠none) (h6:∀i b,look m0 i=some b->∃l b',(l,i)∈σi/\look st.m l=some b'/\vP 0 σi b' b)
  (h7:cg (Y.at q) af.body (kJ af Q) (gz af cs) ⟨q,m0⟩) (h8:∀d m1,Q d m1->∃(σo:List (Nat×Nat)) (q1:Nat) (st':St) (vd':D),Fr σi σo q q1 m0 m1 st st'/\Zr 0 σo d vd'/\K vd' st'):qU P ν dr Y fid ds st K:=by
 intro hok x args hl hargs hs hfr;obtain⟨fn,hf,hc,hn⟩:=hC.split;obtain⟨body,c1,_⟩:=kp hc;refine .inr ⟨fid,args,gx hf hn (by rw[c1];rfl) args x.w, ?_⟩;refine Calls.mono (acT (K:=K) hok hmix hf hc hl hargs hs hfr h1 h2 h3 h4 h5 h6 (iX (hmono q) _ _ _ _ _ (fun e env st1 h=>?_) h7)) fun e w' he=>?_
 .obtain⟨g1,g2,m1,g3,g4⟩:=h
  grind
 grind
end
end
end Go.Abs
section
namespace Go.Abs
structure bX where
 name:av
 range:av
 feats:List av
 bare:Bool
 deriving Inhabited,DecidableEq
def bX.D (x:bX):D:=.agg [.str x.name,.str x.range,.sl 1 (x.feats.map D.str),.bool x.bare]
structure bo where
 any:List bX
 when':av
 option:av
 deriving Inhabited,DecidableEq
def bo.D (x:bo):D:=.agg [.sl 4 (x.any.map bX.D),.str x.when',.str x.option]
structure fZ where
 name:av
 range:av
 when':av
 deriving Inhabited,DecidableEq
def fZ.D (x:fZ):D:=.agg [.str x.name,.str x.range,.str x.when']
structure ct where
 name:av
 of:List av
 deriving Inhabited,DecidableEq
def ct.D (x:ct):D:=.agg [.str x.name,.sl 1 (x.of.map D.str)]
structure Rec where
 name:av
 v:dz
 needs:List bo
 bars:List fZ
 feats:List ct
 deriving Inhabited,DecidableEq
def Rec.D (x:Rec):D:=.agg [.str x.name,.int .i64 x.v.major,.int .i64 x.v.minor,.int .i64 x.v.patch,.str x.v.pre,.str x.v.build,.sl 3 (x.needs.map bo.D),.sl 3 (x.bars.map fZ.D),.sl 2 (x.feats.map ct.D)]
structure dZ where
 op:Int
 parts:Int
 v:dz
 deriving Inhabited,DecidableEq
def dZ.D (x:dZ):D:=.agg [.int .i64 x.op,.int .i64 x.parts,.int .i64 x.v.major,.int .i64 x.v.minor,.int .i64 x.v.patch,.str x.v.pre,.str x.v.build]
structure Nd where
 op:Int
 a:Int
 b:Int
 key:Int
 text:av
 deriving Inhabited,DecidableEq
def Nd.D (x:Nd):D:=.agg [.int .i64 x.op,.int .i64 x.a,.int .i64 x.b,.int .i64 x.key,.str x.text]
def fZ.eq (a b:fZ):jm (fZ.D a).cells (fZ.D b).cells=decide (a=b):=by
 obtain⟨a1,a2,a3⟩:=a;obtain⟨b1,b2,b3⟩:=b
 grind [fZ.D,D.cells,jm,sX]
def bX.same {a b:bX}(e1:a.name=b.name)(e2:a.range=b.range)(e3:a.bare=b.bare):decide (a=b)=decide (a.feats=b.feats):=by
 obtain⟨a1,a2,a3,a4⟩:=a;obtain⟨b1,b2,b3,b4⟩:=b
 grind
def rising (l:List av):Bool:=c9 (fun i=>Op.bytesLess l[i-1]! l[i]!) 1 l.length
def ec (s:av):Int×av×av:=
 if dj s=true then(1,s,[])
 else if s.length>0/\at8 s 0=63/\dj (s.drop 1)=true then(2,s.drop 1,[])
 else if(ai s 47).length=2/\eV (ai s 47)[0]! =true/\dj (ai s 47)[1]! =true then(3,(ai s 47)[0]!,(ai s 47)[1]!)
 else(0,[],[])
def findF (l:List ct)(nm:av)(i:Nat):Int:=match(l.drop i).findIdx? (fun x=>decide (x.name=nm))with
 |some k=>((i+k:Nat):Int)
 |none=>-1
def LK {l:List ct}{nm:av}{i:Nat}(h:i<l.length)(he:l[i]!.name=nm):findF l nm i=(i:Nat):=by
 unfold findF;rw[kS h,List.findIdx?_cons]
 grind
def LL {l:List ct}{nm:av}{i:Nat}(h:i<l.length)(he:¬l[i]!.name=nm):findF l nm i=findF l nm (i+1):=by
 unfold findF;have:¬l[i].name=nm:=by simpa[h]using he
 rw[kS h,List.findIdx?_cons]
 grind
def HF {l:List ct}{nm:av}{i:Nat}(h:l.length<=i):findF l nm i=-1:=by
 unfold findF;rw[nP h];rfl
def agm:av:=[100,101,102,97,117,108,116]
def WA (l:List ct)(nm:av):Bool:=decide (nm=agm) ||decide (0<=findF l nm 0)
def jM (l:List ct)(s:av):Bool:=!(decide ((ec s).1=0) ||(decide ((ec s).1=1)&& !WA l (ec s).2.1))
def nv (l:List ct)(of:List av):Bool:=decide (of.length<=6)&&rising of&&c9 (fun i=>jM l of[i]!) 0 of.length
def kN (l:List ct)(i:Nat):Bool:=dj l[i]!.name&& !(decide (0<i)&& !Op.bytesLess l[i-1]!.name l[i]!.name)&&nv l l[i]!.of
def jn (l:List ct):Bool:=decide (l.length<=8)&&c9 (kN l) 0 l.length
def ct.sm (x:ct):Prop:=x.name.length<=1048576/\x.of.length<=1048576/\∀t∈x.of,t.length<=1048576
def y0 (l:List ct):Prop:=∀x∈l,x.sm
def we (b:av):∀(l:List av) (i:Nat),(aO b (l.take i)).length<=(aO b l).length
 |[],i=>aI
 |[t],0=>by simp[aO]
 |[t],i+1=>aI
 |t::u::r,0=>by simp[aO]
 |t::u::r,1=>by simp[aO]
 |t::u::r,i+2=>by
  have:=we b (u::r) (i+1)
  grind [aO]
theorem xR (b t:av):∀(l:List av),l≠[]->aO b (l++[t])=aO b l++b++t
 |[],h=>absurd rfl h
 |[u],_=>by simp[aO]
 |u::v::r,_=>by
  have:=xR b t (v::r) aI
  grind [aO]
def s9 (b:av)(l:List av)(i:Nat)(h:i<l.length):aO b (l.take (i+1))=(if 0<i then aO b (l.take i)++b else [])++l[i]! :=by
 have e:l.take (i+1)=l.take i++[l[i]!]:=by
  rw[List.take_add_one,List.getElem?_eq_getElem h];simp[h]
 rw[e];by_cases h0:0<i
 .rw[aC h0,xR _ _ _ (by intro hn;have:=ak List.length hn;simp only[eF,aX]at this;omega)]
 grind [aO]
end Go.Abs
namespace Go.Abs
def T9 {s:av}(h0:dj s=true):ec s=(1,s,[]):=by simp only[ec,aC h0]
def Ua {s:av}(h0:dj s=false)(h:(0<(s.length:Int)/\at8 s 0=63)/\dj (s.drop 1)=true):ec s=(2,s.drop 1,[]):=by
 grind [ec]
theorem L2 {s:av}(h:(¬0<(s.length:Int)\/¬at8 s 0=63)\/dj (s.drop 1)=false):¬(s.length>0/\at8 s 0=63/\dj (s.drop 1)=true):=by
 grind
def Ub {s:av}(h0:dj s=false)(h:(¬0<(s.length:Int)\/¬at8 s 0=63)\/dj (s.drop 1)=false)(h2:(((ai s 47).length:Int)=2/\eV (ai s 47)[0]! =true)/\dj (ai s 47)[1]! =true):ec s=((3:Int),(ai s 47)[0]!,(ai s 47)[1]!):=by
 grind [ec,L2]
def T8 {s:av}(h0:dj s=false)(h:(¬0<(s.length:Int)\/¬at8 s 0=63)\/dj (s.drop 1)=false)(h2:(¬((ai s 47).length:Int)=2\/eV (ai s 47)[0]! =false)\/dj (ai s 47)[1]! =false):ec s=(0,[],[]):=by
 grind [ec,L2]
end Go.Abs
end
namespace Go.Abs
theorem yK (s:av)(i:Nat)(h:i<s.length):at8 s i=((s[i]'h).toNat:Int):=by simp[at8,h]
def Ev (p:Int->Bool)(s:av):c9 (fun i=>p (at8 s i)) 0 s.length=true↔∀c∈s,p c.toNat=true:=by
 rw[fN];constructor
 .intro h c hc;obtain⟨i,hi,rfl⟩:=List.getElem_of_mem hc
  grind [yK]
 grind [yK]
theorem vt {b:Int}:∀{s cur:av},(∀c∈s,(c.toNat:Int)≠b)->cQ b s cur=[cur++s]
 |[],cur,_=>by simp[cQ]
 |c::r,cur,h=>by
  simp only[cQ];rw[ar (h c (.head _)),vt (fun d hd=>h d (.tail _ hd))];simp
theorem yu {b:Int}{x:UInt8}(hx:(x.toNat:Int)=b)(r:av):∀{w cur:av},(∀c∈w,(c.toNat:Int)≠b)->cQ b (w++x::r) cur=(cur++w)::cQ b r []
 |[],cur,_=>by simp[cQ,hx]
 |c::w,cur,h=>by
  simp only[fY,cQ];rw[ar (h c (.head _)),yu hx r (fun d hd=>h d (.tail _ hd))];simp
def lQ {b:Int}{x:UInt8}(hx:(x.toNat:Int)=b):∀{ws:List av},ws≠[]->(∀w∈ws,∀c∈w,(c.toNat:Int)≠b)->ai (aO [x] ws) b=ws
 |[],h,_=>absurd rfl h
 |[w],_,h=>by
  show cQ b w []=[w];rw[vt (h w (.head _))];rfl
 |w::u::r,_,h=>by
  have ih:=lQ (ws:=u::r) hx aI (fun v hv=>h v (.tail _ hv));show cQ b (w++[x]++aO [x] (u::r)) []=_;rw[eh,List.singleton_append,yu hx _ (h w (.head _))];rw[show cQ b (aO [x] (u::r)) []=u::r from ih];rfl
def uH {b:Int}{x:UInt8}(hx:(x.toNat:Int)=b):∀(s cur:av),aO [x] (cQ b s cur)=cur++s
 |[],cur=>by simp[cQ,aO]
 |c::r,cur=>by
  simp only[cQ];split
  .rename_i h;rw[eK _ _ _ (by intro h;have:=eN b r [];rw[h]at this;simp at this),uH hx r []];have:c=x:=iY.1 ae;simp[this]
  .rw[uH hx r];simp
theorem iz {b:Int}{x:UInt8}(hx:(x.toNat:Int)=b)(s:av):aO [x] (ai s b)=s:=by
 unfold ai;rw[uH hx];rfl
def LM {p:UInt8->Bool}{w:av}{x:UInt8}{r:av}(h:∀c∈w,p c=false)(hx:p x=true):(w++x::r).findIdx? p=some w.length:=by
 grind
def EE {b:Int}{w:av}(h:∀c∈w,(c.toNat:Int)≠b):aP w b=([],w):=by
 unfold aP ji
 grind
def BL {b:Int}{w r:av}{x:UInt8}(h:∀c∈w,(c.toNat:Int)≠b)(hx:(x.toNat:Int)=b):aP (w++x::r) b=(r,w):=by
 unfold aP ji;rw[bR,LM (fun c hc=>by simpa using h c hc) (by simpa using hx)];simp
theorem LA {n:Nat}(h:n<10):bJ (dg n).toNat=true:=by
 grind [Hz,bJ]
def yS {Q:Nat->Prop}(h1:∀n,n<10->Q n)(h2:∀n,9<n->Q (n/10)->Q n)(n:Nat):Q n:=by
 induction n using Nat.strongRecOn with
 |ind n ih=>
  grind
theorem jb (n:Nat):∀c∈ea n,bJ c.toNat=true:=by
 refine yS (Q:=fun n=>∀c∈ea n,bJ c.toNat=true) (fun n h c hc=>?_) (fun n h ih c hc=>?_) n
 .grind [nS,LA]
 grind [pL,LA]
theorem FA (s:av)(c:UInt8):ed (s++[c])=ed s*10+(c.toNat-48):=by
 simp[ed,List.foldl_append]
def Mh (n:Nat):ed (ea n)=n:=by
 refine yS (Q:=fun n=>ed (ea n)=n) (fun n h=>?_) (fun n h ih=>?_) n
 .grind [nS,Hz,ed]
 grind [pL,FA,Hz]
theorem CJ (n:Nat):ea n≠[]:=by
 refine yS (Q:=fun n=>ea n≠[]) (fun n h=>?_) (fun n h ih=>?_) n
 .rw[nS h];simp
 .rw[pL h];simp
theorem Wc (n:Nat)(h:0<n):at8 (ea n) 0≠48:=by
 refine yS (Q:=fun n=>0<n->at8 (ea n) 0≠48) (fun n h h0=>?_) (fun n h ih h0=>?_) n h
 .grind [nS,Hz,at8]
 grind [pL,CJ,at8,ea]
def wq {n:Nat}(h:n<=9999):gV (ea n)=true:=by
 rw[JG];have h1:=List.length_pos_iff.2 (CJ n);have h2:=eJ 4 n ae ae;have h3:c9 (fun i=>bJ (at8 (ea n) i)) 0 (ea n).length=true:=(Ev bJ _).2 (jb n)
 grind [ea,nS,Wc]
def Bi {n:Nat}(h:n<=9999):fe (ea n)=(n:Int):=by
 rw[fe,aC (wq h),Mh]
theorem pX (x:UInt8):∀(ws:List av) (c:UInt8),c∈aO [x] ws->c=x\/∃w∈ws,c∈w
 |[],c,h=>by simp[aO]at h
 |[w],c,h=>.inr ⟨w,.head _,h⟩
 |w::u::r,c,h=>by
  rw[eK _ _ _ aI]at h;simp only[List.mem_append,cT]at h;rcases h with(h|h)|h
  .exact .inr ⟨w,.head _,h⟩
  .exact .inl h
  .rcases pX x (u::r) c h with h|⟨v,hv,hc⟩
   .exact .inl h
   .exact .inr ⟨v,.tail _ hv,hc⟩
def Nj {s:av}{p:Bool}(h:vw s p=true){c:UInt8}(hc:c∈s):pS c.toNat=true\/c=46:=by
 simp only[vw,dw,bh,rh,bM,fN]at h;rcases h with rfl|⟨_,h⟩
 .cases hc
 .rw[<-iz (b:=46) (x:=46) rfl s]at hc;rcases pX 46 _ c hc with rfl|⟨w,hw,hcw⟩
  .exact .inr rfl
  .left;obtain⟨i,hi,rfl⟩:=List.getElem_of_mem hw;have:=h i ae hi;rw[show(ai s 46)[i]! =(ai s 46)[i]by simp[hi]]at this;simp only[jC,vv,bM]at this;exact(Ev pS _).1 this.1.2 c hcw
def Kf {s:av}{p:Bool}(h:vw s p=true){c:UInt8}(hc:c∈s):c.toNat≠43/\c.toNat≠32/\c.toNat≠10:=by
 rcases Nj h hc with h|rfl
 .grind [pS,jq,bJ]
 .decide
def um {c:UInt8}(h:bJ c.toNat=true):c.toNat≠46/\c.toNat≠45/\c.toNat≠43/\c.toNat≠32/\c.toNat≠10:=by
 grind [bJ]
def coreS (v:dz):av:=ea v.major.toNat++[46]++ea v.minor.toNat++[46]++ea v.patch.toNat
def Jk (v:dz){c:UInt8}(h:c∈coreS v):c.toNat≠45/\c.toNat≠43/\c.toNat≠32/\c.toNat≠10:=by
 simp only[coreS,List.mem_append,cT]at h;rcases h with(((h|rfl)|h)|rfl)|h
 .exact(um (jb _ c h)).2
 .decide
 .exact(um (jb _ c h)).2
 .decide
 .exact(um (jb _ c h)).2
theorem BE (v:dz):vz v=coreS v++(if v.pre=[]then []else 45::v.pre)++(if v.build=[]then []else 43::v.build):=rfl
def ad9 {v:dz}(h:jD v=true){c:UInt8}(hc:c∈vz v):c.toNat≠32/\c.toNat≠10:=by
 simp only[jD,bM]at h;rw[BE]at hc;simp only[List.mem_append]at hc;rcases hc with(hc|hc)|hc
 .exact(Jk v hc).2.2
 .split at hc
  .cases hc
  .rcases ca.1 hc with rfl|hc
   .decide
   .exact(Kf h.1.2 hc).2
 .split at hc
  .cases hc
  .rcases ca.1 hc with rfl|hc
   .decide
   .exact(Kf h.2 hc).2
def ai5 {v:dz}(h:jD v=true):hH (ll v)=some v:=by
 have h0:=h;simp only[jD,sZ,bM,bh]at h;obtain⟨⟨⟨⟨h1,h2⟩,h3⟩,h4⟩,h5⟩:=h;have e0:ll v=vz v:=by rw[ll,aC h0]

 have hcp:∀c∈coreS v++(if v.pre=[]then []else 45::v.pre),(c.toNat:Int)≠43:=fun c hc=>by
  rcases List.mem_append.1 hc with hc|hc
  .have:=(Jk v hc).2.1;omega
  .split at hc
   .cases hc
   .rcases ca.1 hc with rfl|hc
    .decide
    .have:=(Kf h4 hc).1;omega
 have e1:aP (vz v) 43=(v.build,coreS v++(if v.pre=[]then []else 45::v.pre)):=by
  rw[BE];generalize coreS v++(if v.pre=[]then []else 45::v.pre)=q at hcp⊢;split
  .rename_i hb;rw[gQ,EE hcp,hb]
  .exact BL hcp aG
 have hc45:∀c∈coreS v,(c.toNat:Int)≠45:=fun c hc=>by have:=(Jk v hc).1;omega
 have e2:aP (coreS v++(if v.pre=[]then []else 45::v.pre)) 45=(v.pre,coreS v):=by
  split
  .rename_i hb;rw[gQ,EE hc45,hb]
  .exact BL hc45 aG
 have e3:ai (coreS v) 46=[ea v.major.toNat,ea v.minor.toNat,ea v.patch.toNat]:=by
  have:=lQ (b:=46) (x:=46) rfl (ws:=[ea v.major.toNat,ea v.minor.toNat,ea v.patch.toNat]) aI (fun w hw c hc=>by
   have hd:bJ c.toNat=true:=by
    simp only[ca,ek,or_false]at hw;rcases hw with rfl|rfl|rfl<;>exact jb _ c hc
   have:=(um hd).1;omega)
  rw[<-this];simp[aO,coreS]
 have n1:=wq (n:=v.major.toNat) ae;have n2:=wq (n:=v.minor.toNat) ae;have n3:=wq (n:=v.patch.toNat) ae;have o1:=Bi (n:=v.major.toNat) ae;have o2:=Bi (n:=v.minor.toNat) ae;have o3:=Bi (n:=v.patch.toNat) ae;have ev:(⟨((v.major.toNat:Nat):Int),((v.minor.toNat:Nat):Int),((v.patch.toNat:Nat):Int),v.pre,v.build⟩:dz)=v:=by
  obtain⟨a,b,c,d,e⟩:=v;simp only[dz.mk.injEq,cC,cb];simp only at h1 h2 h3;omega
 rw[e0];simp only[hH,e1,e2,e3];rw[aC ⟨rfl,n1,n2,n3⟩];simp only[List.getElem!_cons_zero,List.getElem!_cons_succ,o1,o2,o3,ev];rw[aC ⟨h0,e0⟩]
def hv (c:UInt8):Nat:=if bJ c.toNat=true then c.toNat-48 else c.toNat-87
def tJ (s:av):Nat:=s.foldl (fun n c=>n*16+hv c) 0
def NG (a b:Int):0<=NF a b/\NF a b<18446744073709551616:=by
 unfold NF;rw[IntKind.wrap_u64];omega
def Tq (s:av):0<=sumL s/\sumL s<18446744073709551616:=NG _ _
theorem Vk {s:av}(h:dj s=true){c:UInt8}(hc:c∈s):Da c.toNat=true:=by
 simp only[dj,bM]at h;exact(Ev Da s).1 h.2 c hc
def Vl {s:av}(h:dj s=true){c:UInt8}(hc:c∈s):c.toNat≠32/\c.toNat≠10/\c.toNat≠45:=by
 grind [Vk,Da,jq,bJ]
def af6 {s:av}(h:dj s=true):s≠[]:=by
 rintro rfl;simp[dj]at h
def CX {s:av}(h:eV s=true):s≠[]/\jq (at8 s 0)=true/\∀c∈s,c.toNat≠32/\c.toNat≠10:=by
 simp only[eV,bM,bh,fN]at h;obtain⟨⟨⟨⟨h1,h2⟩,h3⟩,h4⟩,h5⟩:=h;refine⟨by rintro rfl;simp at h1,h3,fun c hc=>?_⟩;obtain⟨i,hi,rfl⟩:=List.getElem_of_mem hc;rcases Nat.eq_zero_or_pos i with rfl|hp
 .grind [yK,jq]
 grind [nch,yK,jq,bJ]
def AD.wf (x:AD):Prop:=0<=x.sum/\x.sum<18446744073709551616
def KL.wf (l:KL):Prop:=∀x∈l.lines,x.wf
end Go.Abs
section
namespace Go.Abs
theorem Cb {b:Int}{x:UInt8}(hx:(x.toNat:Int)=b):∀(s cur:av),cQ b s cur=match s.findIdx? (fun c=>c==x)with
  |some k=>(cur++s.take k)::cQ b (s.drop (k+1)) []
  |none=>[cur++s]
 |[],cur=>by simp[cQ]
 |c::r,cur=>by
  simp only[cQ,List.findIdx?_cons];by_cases h:c=x
  .subst h;rw[aC hx];simp
  .have h1:¬(c.toNat:Int)=b:=fun e=>h (iY.1 ae)
   have h2:(c==x)=false:=by simpa using h
   rw[ar h1,h2,Cb hx r (cur++[c])]
   grind
def Is (s:av)(x:UInt8):ai s x.toNat=if(gT s x).2.2=true then(gT s x).1::ai (gT s x).2.1 x.toNat else [s]:=by
 grind [ai,gT,Cb]
def Il {s:av}:(((gT s 47).2.2=true/\eV (gT s 47).1=true)/\dj (gT s 47).2.1=true)↔(((ai s 47).length:Int)=2/\eV (ai s 47)[0]! =true)/\dj (ai s 47)[1]! =true:=by
 have h:=Is s 47;rw[show(((47:UInt8).toNat:Nat):Int)=47 from rfl]at h;by_cases hc:(gT s 47).2.2=true
 .rw[aC hc]at h;rw[h];have hj:=iz (b:=47) (x:=47) rfl (gT s 47).2.1;constructor
  .grind [ai,gT,cQ,vt,Vk,Da,jq,bJ]
  .rintro⟨⟨h1,h2⟩,h3⟩;refine⟨⟨hc,h2⟩, ?_⟩;generalize ai (gT s 47).2.1 47=q at hj h1 h3
   match q,h1 with
   |[y],_=>
    have:y=(gT s 47).2.1:=hj;rw[<-this];exact h3
   |[],h1=>simp at h1
   |_::_::_,h1=>simp at h1;omega
 .rw[ar hc]at h;rw[h];constructor
  .rintro⟨⟨h1,_⟩,_⟩;exact absurd h1 hc
  .rintro⟨⟨h1,_⟩,_⟩;simp at h1
def Mc {s:av}:(gy s [63]).2=true↔0<(s.length:Int)/\at8 s 0=63:=by
 match s with
 |[]=>simp[gy,List.isPrefixOf]
 |c::r=>
  have e:((c.toNat:Int)=63)↔c=63:=⟨fun h=>iY.1 (by have:(63:UInt8).toNat=63:=rfl;omega),fun h=>by subst h;rfl⟩
  grind [gy,at8]
theorem HV {s:av}(h:(gy s [63]).2=true):(gy s [63]).1=s.drop 1:=by
 grind [gy]
def ada {s:av}(h0:dj s=false)(h:(gy s [63]).2=true/\dj (gy s [63]).1=true):ec s=(2,(gy s [63]).1,[]):=by
 rw[HV h.1]at h⊢;exact Ua h0 ⟨Mc.1 h.1,h.2⟩
def Uc {s:av}(h:(gy s [63]).2=false\/dj (gy s [63]).1=false):(¬0<(s.length:Int)\/¬at8 s 0=63)\/dj (s.drop 1)=false:=by
 by_cases hp:(gy s [63]).2=true
 .grind [HV]
 .have:=fun h2=>hp (Mc.2 h2)
  grind
def adb {s:av}(h0:dj s=false)(h:(gy s [63]).2=false\/dj (gy s [63]).1=false)(h2:((gT s 47).2.2=true/\eV (gT s 47).1=true)/\dj (gT s 47).2.1=true):ec s=((3:Int),(gT s 47).1,(gT s 47).2.1):=by
 have h3:=Il.1 h2;rw[Ub h0 (Uc h) h3];have hs:=Is s 47;rw[show(((47:UInt8).toNat:Nat):Int)=47 from rfl,aC h2.1.1]at hs;have hj:=iz (b:=47) (x:=47) rfl (gT s 47).2.1;have hl:=h3.1.1;rw[hs]at hl⊢;generalize ai (gT s 47).2.1 47=q at hj hl
 match q,hl with
 |[y],_=>
  have:y=(gT s 47).2.1:=hj;rw[<-this];rfl
 |[],h1=>simp at h1
 |_::_::_,h1=>simp at h1;omega
def ac9 {s:av}(h0:dj s=false)(h:(gy s [63]).2=false\/dj (gy s [63]).1=false)(h2:((gT s 47).2.2=false\/eV (gT s 47).1=false)\/dj (gT s 47).2.1=false):ec s=(0,[],[]):=by
 refine T8 h0 (Uc h) ?_;have hn:¬((((ai s 47).length:Int)=2/\eV (ai s 47)[0]! =true)/\dj (ai s 47)[1]! =true):=fun h3=>by
  obtain⟨⟨g1,g2⟩,g3⟩:=Il.2 h3
  grind
 grind
end Go.Abs
namespace Go.Abs
def Wf {l:List ct}{i:Nat}(h:(!dj l[i]!.name ||(decide ((0:Int)<(i:Int))&& !Op.bytesLess l[i-1]!.name l[i]!.name) ||decide ((6:Int)<(l[i]!.of.length:Int)) ||!rising l[i]!.of)=false):
  kN l i=c9 (fun j=>jM l l[i]!.of[j]!) 0 l[i]!.of.length:=by
 grind [kN,nv]
def We {l:List ct}{i:Nat}(h:(!dj l[i]!.name ||(decide ((0:Int)<(i:Int))&& !Op.bytesLess l[i-1]!.name l[i]!.name) ||decide ((6:Int)<(l[i]!.of.length:Int)) ||!rising l[i]!.of)=true):
  kN l i=false:=by
 grind [kN,nv,dj,rising]
end Go.Abs
end
section
namespace Go.Abs
def er (op:Int):av:=if op=1 then [61]else if op=2 then [33,61]else if op=3 then [60]else if op=4 then [60,61]else if op=5 then [62]else if op=6 then [62,61]else if op=7 then [94]else if op=8 then [126]else []
def Bx (op:Int):(er op).length<=2:=by
 grind [er]
def xr (s w:av):Bool:=decide (w.length<=s.length)&&decide (s.take w.length=w)
def tG (c:dZ):Bool:=(decide (0<c.parts) ||decide (c.v.major=0))&&(decide (1<c.parts) ||decide (c.v.minor=0))&&(decide (2<c.parts) ||decide (c.v.patch=0))
def pJ (c:dZ):Bool:=decide (1<=c.op)&&decide (c.op<=9)&&jD c.v&&decide (c.v.build=[])&&decide ((if c.op=9 then 0 else 1)<=c.parts)&&decide (c.parts<=if c.op=9 then 2 else 3)&&(decide (3<=c.parts) ||decide (c.v.pre=[]))&&tG c
def dZ.sm (c:dZ):Prop:=c.v.sm
def Lx {c:dZ}(h:(decide (c.op<1) ||decide (9<c.op) ||!jD c.v ||!decide (c.v.build=[]))=true):pJ c=false:=by
 unfold pJ
 grind
def Hy {c:dZ}(h:(decide (c.op<1) ||decide (9<c.op) ||!jD c.v ||!decide (c.v.build=[]))=false):1<=c.op/\c.op<=9/\jD c.v=true/\c.v.build=[]:=by
 grind
end Go.Abs
namespace Go.Abs
def vV {c:dZ}(hy:1<=c.op/\c.op<=9/\jD c.v=true/\c.v.build=[]){lo hi:Int}(hlo:(if c.op=9 then 0 else 1)=lo)(hhi:(if c.op=9 then 2 else 3)=hi):
  pJ c=(!(decide (c.parts<lo) ||decide (hi<c.parts) ||(decide (c.parts<3)&& !decide (c.v.pre=[])))&&tG c):=by
 grind [pJ]
end Go.Abs
namespace Go.Abs
def dZ.py (c:dZ):List Int:=[c.v.major,c.v.minor,c.v.patch]
def iB (c:dZ):Nat->av
 |0=>[]
 |i+1=>iB c i++(if 0<i then [46]else [])++ea (c.py[i]!).toNat
def mY (c:dZ):av:=if c.op=9 then(if 0<c.parts then [46]else [])++[42]else if c.v.pre=[]then []else 45::c.v.pre
def oL (c:dZ):av:=er c.op++iB c c.parts.toNat++mY c
def eY (c:dZ):av:=if pJ c=true then oL c else []
def uO {c:dZ}(h:jD c.v=true)(i:Nat):0<=c.py[i]! /\c.py[i]! <=9999:=by
 simp only[jD,sZ,bM,bh]at h
 match i with
 |0=>exact h.1.1.1.1
 |1=>exact h.1.1.1.2
 |2=>exact h.1.1.2
 |k+3=>exact(by simp[dZ.py]:0<=c.py[k+3]! /\c.py[k+3]! <=9999)
def wu {c:dZ}(h:jD c.v=true):∀i,(iB c i).length<=5*i
 |0=>by simp[iB]
 |i+1=>by
  have:=wu h i;have hn:=uO h i;have:=eJ 4 (c.py[i]!).toNat ae ae
  grind [iB]
def rL {c:dZ}(h:pJ c=true):jD c.v=true/\0<=c.parts/\c.parts<=3/\1<=c.op/\c.op<=9:=by
 grind [pJ]
end Go.Abs
namespace Go.Abs
def oX (c:dZ):List av:=(c.py.map fun n=>ea n.toNat).take c.parts.toNat
def H6 (c:dZ):∀i,i<=3->aO [46] ((c.py.map fun n=>ea n.toNat).take i)=iB c i
 |0,_=>by simp[aO,iB]
 |i+1,h=>by
  have hl:i<(c.py.map fun n=>ea n.toNat).length:=by simp[dZ.py];omega
  have hl2:i<c.py.length:=by show i<3;omega
  rw[s9 _ _ _ hl,H6 c i ae];simp only[iB];have e:(c.py.map fun n=>ea n.toNat)[i]! =ea (c.py[i]!).toNat:=by simp[hl2]
  rw[e];split
  .simp
  grind [iB]
theorem Np {c:dZ}(h:c.parts<=3):(oX c).length=c.parts.toNat:=by
 simp[oX,dZ.py];omega
theorem Ix {c:dZ}(h:c.parts<=3):aO [46] (oX c)=iB c c.parts.toNat:=H6 c _ ae
def BD {c:dZ}(h0:0<=c.parts)(h:c.parts<=3):aO [46] (oX c++[[42]])=iB c c.parts.toNat++((if 0<c.parts then [46]else [])++[42]):=by
 by_cases hp:0<c.parts
 .grind [xR,Np,Ix]
 .have:c.parts.toNat=0:=ae;rw[ar hp,this];have e:oX c=[]:=by simp[oX,this]
  rw[e];rfl
end Go.Abs
namespace Go.Abs
def opsL:List Int:=[2,4,6,1,3,5,7,8]
def tj (s:av)(i:Nat):Option Int:=(opsL.drop i).find? fun o=>xr s (er o)
def iT (s:av):Int×av:=match tj s 0 with
 |some o=>(o,s.drop (er o).length)
 |none=>if 0<s.length/\at8 s (s.length-1)=42 then(9,s)else(7,s)
def Uz {s:av}{i:Nat}(h:i<8)(hb:xr s (er opsL[i]!)=true):tj s i=some opsL[i]! :=by
 have hl:i<opsL.length:=h;unfold tj;rw[kS hl,List.find?_cons]
 grind
def UA {s:av}{i:Nat}(h:i<8)(hb:xr s (er opsL[i]!)=false):tj s i=tj s (i+1):=by
 have hl:i<opsL.length:=h;unfold tj;rw[kS hl,List.find?_cons]
 grind
def FD {s:av}{i:Nat}(h:8<=i):tj s i=none:=by
 unfold tj;rw[nP h];rfl
def jA (s:av)(i:Nat):av×av:=match(s.drop i).findIdx? (fun c=>c==45)with
 |some k=>(s.take (i+k),s.drop (i+k+1))
 |none=>(s,[])
def UF {s:av}{i:Nat}(h:i<s.length)(he:at8 s i=45):jA s i=(s.take i,s.drop (i+1)):=by
 unfold jA;rw[nT s i h,List.findIdx?_cons];have:s.getD i 0=45:=iY.1 (by simp only[at8]at he;show(s.getD i 0).toNat=45;omega);rw[this];rfl
def UG {s:av}{i:Nat}(h:i<s.length)(he:¬at8 s i=45):jA s i=jA s (i+1):=by
 unfold jA;rw[nT s i h,List.findIdx?_cons];have:(s.getD i 0==45)=false:=by
  rw[beq_eq_false_iff_ne];intro e;exact he (by simp only[at8,e];rfl)
 grind
def Mu {s:av}{i:Nat}(h:s.length<=i):jA s i=(s,[]):=by
 unfold jA;rw[nP h];rfl
end Go.Abs
namespace Go.Abs
def gJ (l:List av):Bool:=decide (l.length<=3)&&c9 (fun i=>gV l[i]!) 0 l.length
def aaD (l:List av):dz:=⟨if 0<l.length then fe l[0]! else 0,if 1<l.length then fe l[1]! else 0,if 2<l.length then fe l[2]! else 0,[],[]⟩
def Fz (l:List av):dz:=if gJ l=true then aaD l else hX
end Go.Abs
namespace Go.Abs
def fH:dZ:=⟨0,0,hX⟩
def Ih (op:Int)(l:List av):List av:=if op=9 then l.take (l.length-1)else l
def iv (op:Int)(l:List av)(pre:av):dZ:=⟨op,(l.length:Nat),{aaD l with pre:=pre}⟩
def B1 (s:av)(op:Int)(l:List av)(pre:av):Bool:=gJ l&& !(decide (eY (iv op l pre)=[]) ||(!decide (eY (iv op l pre)=s)&& !decide (eY (iv op l pre)=94::s)))
def fG (s:av):Option dZ:=
 let o:=iT s
 let p:=jA o.2 0
 let l:=Ih o.1 (ai p.1 46)
 if B1 s o.1 l p.2=true then some (iv o.1 l p.2)else none
def Gf (s:av):(iT s).2.length<=s.length:=by
 grind [iT]
def FM (s:av):(jA s 0).1.length<=s.length/\(jA s 0).2.length<=s.length:=by
 unfold jA;split<;>simp<;>omega
end Go.Abs
namespace Go.Abs
def eE (s:av):Int×av:=match tj s 0 with
 |some o=>(o,s.drop (er o).length)
 |none=>(9,s)
def gr (s:av):av×av:=jA (eE s).2 0
def fK (s:av):List av:=Ih (eE s).1 (ai (gr s).1 46)
def qN (s:av):Prop:=(eE s).1=9->(ai (gr s).1 46)[(ai (gr s).1 46).length-1]! =[42]
instance (s:av):Decidable (qN s):=by unfold qN;exact inferInstance
def gb (s:av):dZ:=iv (eE s).1 (fK s) (gr s).2
def jd (s:av):Option dZ:=if qN s/\gJ (fK s)=true/\pJ (gb s)=true/\eY (gb s)=s then some (gb s)else none
def Uy (l:List av)(i:Nat):dz:=⟨if 0<i then fe l[0]! else 0,if 1<i then fe l[1]! else 0,if 2<i then fe l[2]! else 0,[],[]⟩
def Xb (s:av):(eE s).2.length<=s.length:=by
 unfold eE;split<;>simp
def mC {s:av}(h:¬(qN s/\gJ (fK s)=true/\pJ (gb s)=true/\eY (gb s)=s)):jd s=none:=by
 unfold jd;rw[ar h]
end Go.Abs
namespace Go.Abs
def pE (s:av):Option dZ:=if(jd s).isSome=true then jd s else jd (94::s)
def Nn (c:dZ):cr:=.buf 1 [.str (ea c.v.major.toNat),.str (ea c.v.minor.toNat),.str (ea c.v.patch.toNat)]
def Gn (c:dZ):[D.str (ea c.v.major.toNat),D.str (ea c.v.minor.toNat),D.str (ea c.v.patch.toNat)].take c.parts.toNat=(oX c).map D.str:=by
 unfold oX dZ.py;rw[List.map_take];rfl
def ad7 {c:dZ}{m:List (Nat×cr)}{l:Nat}(hl:look m l=some (Nn c)):xV m [.sl 1 [.a]] (.own l 1 0 c.parts.toNat)=.sl 1 ((oX c).map D.str):=by
 show D.sl 1 _=_;simp only[bG,hl,Nn,bR,Gn,List.map_map];congr 1
def abP {c:dZ}{m:List (Nat×cr)}{l:Nat}(h:c.parts<=3)(hl:look m l=some (Nn c)):xVO m [.sl 1 [.a]] (.own l 1 0 c.parts.toNat):=by
 simp only[xVO,xHO,xCO];refine⟨by simp[gX,hl,Nn];omega, ?_⟩;simp only[bG,hl,Nn,bR,Gn];intro e he;obtain⟨x,_,rfl⟩:=eG.1 he;trivial
end Go.Abs
end
namespace Go.Abs
def vW {c:dZ}(h:eY c≠[]):pJ c=true/\eY c=oL c:=by
 grind [eY]
def JJ {s:av}{op:Int}{l:List av}{pre:av}:B1 s op l pre=true↔gJ l=true/\eY (iv op l pre)≠[]/\(eY (iv op l pre)=s\/eY (iv op l pre)=94::s):=by
 grind [B1]
def FJ (c:UInt8):Prop:=c≠33/\c≠60/\c≠61/\c≠62/\c≠94/\c≠126
theorem uo {c:UInt8}(h:bJ c.toNat=true):FJ c/\c≠42:=by
 simp only[bJ,bM,bh]at h;refine⟨⟨?_, ?_, ?_, ?_, ?_, ?_⟩, ?_⟩<;>rintro rfl<;>revert h<;>decide
def Mj {k:dZ}:∀(i:Nat) (c:UInt8),c∈iB k i->bJ c.toNat=true\/c=46
 |0,c,h=>by simp[iB]at h
 |i+1,c,h=>by
  simp only[iB,List.mem_append]at h;rcases h with(h|h)|h
  .exact Mj i c h
  .grind
  .exact .inl (jb _ c h)
def FB (k:dZ):∀i,0<i->∃c r,iB k i=c::r/\bJ c.toNat=true
 |0,h=>ae
 |1,_=>by
  have hd:=jb (k.py[0]!).toNat;have hn:=CJ (k.py[0]!).toNat;simp only[iB,Nat.lt_irrefl,aZ,fS];generalize ea (k.py[0]!).toNat=w at hd hn
  match w,hn with
  |c::r,_=>exact⟨c,r,rfl,hd c (.head _)⟩
 |i+2,_=>by
  obtain⟨c,r,h1,h2⟩:=FB k (i+1) ae
  grind [ea,iB]
def V8 {c:dZ}(h:pJ c=true)(h9:c.op≠9):0<c.parts.toNat:=by
 grind [pJ]
def W3 {s:av}{o:Int}(h:tj s 0=some o):1<=o/\o<=8/\∃x t,s=x::t/\¬FJ x/\(x=94->o=7):=by
 have hm:=List.mem_of_find?_eq_some h;have hb:=List.find?_some h;simp only[xr,bM,bh]at hb;obtain⟨h1,h2⟩:=hb;have hne:s≠[]\/er o=[]:=by
  grind
 simp only[opsL,bR,ca,ek,or_false]at hm;have key:∀w:av,w≠[]->s.take w.length=w->∃x t t',s=x::t/\w=x::t':=by
  intro w hw hs
  match w,hw with
  |x::t',_=>
   match s with
   |[]=>simp at hs
   |y::t=>
    grind
 rcases hm with rfl|rfl|rfl|rfl|rfl|rfl|rfl|rfl
 all_goals
  refine⟨ae,ae, ?_⟩;obtain⟨x,t,t',e1,e2⟩:=key _ aG h2;have hxx:=ak (fun w:av=>w.headD 0) e2;simp only[List.headD_cons]at hxx;refine⟨x,t,e1, ?_, ?_⟩
  .rw[<-hxx];unfold FJ;decide
  .rw[<-hxx];decide
theorem FC (t:av):tj (94::t) 0=some 7:=by
 unfold tj opsL;have hn:∀w:av,w≠[]->w.headD 0≠94->xr (94::t) w=false:=by
  intro w hw hx
  match w,hw with
  |x::r,_=>
   grind [xr]
 have hy:xr (94::t) (er 7)=true:=by
  grind [xr,er]
 simp only[bR,List.find?_cons,hn _ (show er 2≠[]by decide) aG,hn _ (show er 4≠[]by decide) aG,hn _ (show er 6≠[]by decide) aG,hn _ (show er 1≠[]by decide) aG,
  hn _ (show er 3≠[]by decide) aG,hn _ (show er 5≠[]by decide) aG,hy]
def Mz (t:av):eE (94::t)=(7,t):=by
 grind [eE,FC,er]
def Gi (b:Int):∀(s cur:av),∃r l,cQ b s cur=(cur++r)::l
 |[],cur=>⟨[],[],by simp[cQ]⟩
 |c::s,cur=>by
  simp only[cQ];split
  .exact⟨[],_,by rw[gQ]⟩
  .obtain⟨r,l,h⟩:=Gi b s (cur++[c]);exact⟨c::r,l,by rw[h];simp⟩
def Xu {x:UInt8}{t:av}(h:¬FJ x):gJ (ai (jA (x::t) 0).1 46)=false:=by
 have hx:x≠45/\x≠46/\bJ x.toNat=false:=by
  grind [FJ,bJ,uo]
 have hp:∃r,(jA (x::t) 0).1=x::r:=by
  unfold jA;rw[bR,List.findIdx?_cons];rw[ar (by simpa using hx.1)];cases t.findIdx? (fun c=>c==45)with
  |none=>exact⟨t,rfl⟩
  |some k=>exact⟨t.take k,aI⟩
 obtain⟨r,hr⟩:=hp;rw[hr];have h46:¬((x.toNat:Int)=46):=fun e=>hx.2.1 (iY.1 (by show x.toNat=46;omega))
 obtain⟨q,l,hs⟩:=Gi 46 r [x]
 grind [ai,cQ,gJ,bc,gV,JG,bJ,at8]
def agF {s:av}(h:iT s=eE s):fG s=if B1 s (eE s).1 (fK s) (gr s).2=true then some (gb s)else none:=by
 unfold fG;simp only[h];rfl
def FU {s:av}:jd s=if qN s/\gJ (fK s)=true/\pJ (gb s)=true/\eY (gb s)=s then some (gb s)else none:=rfl
def W9 {s:av}(h:∀c∈s,c≠45):jA s 0=(s,[]):=by
 grind [jA]
def Iu {k:dZ}(hb:pJ k=true)(h9:k.op=9):oL k=aO [46] (oX k++[[42]]):=by
 obtain⟨_,h0,h3,_,_⟩:=rL hb;rw[BD h0 h3];unfold oL mY;rw[aC h9,h9];rfl
theorem vx {k:dZ}{w:av}(h:w∈oX k++[[42]]){c:UInt8}(hc:c∈w):bJ c.toNat=true\/c=42:=by
 rcases List.mem_append.1 h with h|h
 .have:=jN h
  grind [jb]
 grind
def It {k:dZ}{s:av}(hb:pJ k=true)(h9:k.op=9)(hs:oL k=s):(0<s.length/\at8 s (s.length-1)=42)/\jA s 0=(s,[])/\ai s 46=oX k++[[42]]:=by
 have ht:=Iu hb h9;obtain⟨_,h0,h3,_,_⟩:=rL hb;rw[hs]at ht;have hch:∀c∈s,bJ c.toNat=true\/c=42\/c=46:=by
  grind [pX,vx]
 refine⟨?_,W9 (fun c hc=>?_), ?_⟩
 .have he:∃q,s=q++[42]:=by
   rw[ht,BD h0 h3];exact⟨iB k k.parts.toNat++(if 0<k.parts then [46]else []),by rw[eh]⟩
  obtain⟨q,rfl⟩:=he;simp[at8]
 .rintro rfl;rcases hch 45 hc with h|h|h
  .revert h;decide
  .revert h;decide
  .revert h;decide
 .rw[ht];refine lQ (b:=46) (x:=46) rfl aI fun w hw c hc=>?_
  rcases vx hw hc with h|h
  .have:=(um h).1;omega
  .rw[h];decide
def EL {k:dZ}{s:av}(hb:pJ k=true)(h7:k.op=7)(hs:oL k=94::s):(∀c∈s,c≠42)/\∃c r,s=c::r/\bJ c.toNat=true:=by
 have hp:=V8 hb ae;have e:s=iB k k.parts.toNat++mY k:=by
  unfold oL at hs;rw[h7,show er 7=[94]by decide]at hs;simpa using hs.symm
 obtain⟨c,r,h1,h2⟩:=FB k _ hp;refine⟨fun c hc=>?_,c,r++mY k,by rw[e,h1];rfl,h2⟩;rw[e]at hc;rcases List.mem_append.1 hc with hc|hc
 .rcases Mj _ c hc with h|h
  .exact(uo h).2
  .rw[h];decide
 .unfold mY at hc;rw[ar ae]at hc;split at hc
  .cases hc
  .rcases ca.1 hc with rfl|hc
   .decide
   .have hv:=(rL hb).1;simp only[jD,bM]at hv;rcases Nj hv.1.2 hc with h|h
    .rintro rfl;revert h;decide
    .rw[h];decide
def C0 {s:av}:B1 s (eE s).1 (fK s) (gr s).2=true↔gJ (fK s)=true/\eY (gb s)≠[]/\(eY (gb s)=s\/eY (gb s)=94::s):=JJ
def ZK (s:av):pE s=fG s:=by
 have hcar:eE (94::s)=(7,s):=Mz s;have hL7:fK (94::s)=ai (jA s 0).1 46:=by
  unfold fK gr;rw[hcar];rfl
 have hK7:gb (94::s)=iv 7 (ai (jA s 0).1 46) (jA s 0).2:=by
  unfold gb;rw[hL7];unfold gr;rw[hcar]
 cases ho:tj s 0 with
 |some o=>
  obtain⟨o1,o8,x,t,hs,hx,hx94⟩:=W3 ho;have hrw:eE s=(o,s.drop (er o).length):=by simp only[eE,ho]
  have hsp:iT s=eE s:=by rw[hrw];simp only[iT,ho]
  have hstar:qN s:=by
   intro h;rw[hrw]at h;simp only at h;omega
  have hcn:jd (94::s)=none:=mC fun h=>by
   have:=h.2.1;rw[hL7,hs,Xu hx]at this;cases this
  have hop:(gb s).op=o:=by show(eE s).1=o;rw[hrw]
  rw[agF hsp];by_cases hk:gJ (fK s)=true/\eY (gb s)=s
  .have hne:eY (gb s)≠[]:=by rw[hk.2,hs];simp
   have hb:=(vW hne).1;have hr:jd s=some (gb s):=by rw[FU,aC ⟨hstar,hk.1,hb,hk.2⟩]
   have hok:B1 s (eE s).1 (fK s) (gr s).2=true:=C0.2 ⟨hk.1,hne,.inl hk.2⟩;rw[aC hok];unfold pE;rw[hr];rfl
  .have hr:jd s=none:=mC fun h=>hk ⟨h.2.1,h.2.2.2⟩
   have hok:¬B1 s (eE s).1 (fK s) (gr s).2=true:=fun h=>by
    obtain⟨h1,h2,h3⟩:=C0.1 h;rcases h3 with h3|h3
    .exact hk ⟨h1,h3⟩
    .obtain⟨hb,he⟩:=vW h2;have h3':oL (gb s)=94::s:=by rw[<-he];exact h3
     have h7:o=7:=by
      have hh:∃y w,er o=y::w/\(y=94->o=7):=by
       have:o=1\/o=2\/o=3\/o=4\/o=5\/o=6\/o=7\/o=8:=ae;rcases this with rfl|rfl|rfl|rfl|rfl|rfl|rfl|rfl
       .exact⟨61,[],aG,aG⟩
       .exact⟨33,[61],aG,aG⟩
       .exact⟨60,[],aG,aG⟩
       .exact⟨60,[61],aG,aG⟩
       .exact⟨62,[],aG,aG⟩
       .exact⟨62,[61],aG,aG⟩
       .exact⟨94,[],aG,aG⟩
       .exact⟨126,[],aG,aG⟩
      obtain⟨y,w,e1,e2⟩:=hh;unfold oL at h3';rw[hop,e1]at h3';simp only[fY,qR]at h3';exact e2 h3'.1
     obtain⟨_,c,r,e1,e2⟩:=EL hb (by rw[hop];exact h7) h3';rw[hs]at e1;simp only[qR]at e1;rw[<-e1.1]at e2;exact hx (uo e2).1
   rw[ar hok];unfold pE;rw[hr,ar aI,hcn]
 |none=>
  have hrw:eE s=(9,s):=by simp only[eE,ho]
  have h94:∀t,s≠94::t:=by
   rintro t rfl;rw[FC]at ho;cases ho
  have hop:(gb s).op=9:=by show(eE s).1=9;rw[hrw]
  have hst7:qN (94::s):=by
   intro h;rw[hcar]at h;simp only at h;omega
  by_cases hl:0<s.length/\at8 s (s.length-1)=42
  .have hsp:iT s=eE s:=by rw[hrw];simp only[iT,ho,aC hl]
   have hcn:jd (94::s)=none:=mC fun h=>by
    obtain⟨_,h2,h3,h4⟩:=h;have he:=(vW (c:=gb (94::s)) (by rw[h4];simp)).2;rw[h4]at he;have hno:=(EL h3 (by rw[hK7];rfl) he.symm).1;have hmem:s[s.length-1]'(ae)∈s:=List.getElem_mem _;refine hno _ hmem (iY.1 ?_);have:=hl.2;rw[yK s _ ae]at this;show _=42;omega
   rw[agF hsp];by_cases hk:gJ (fK s)=true/\eY (gb s)=s
   .have hne:eY (gb s)≠[]:=by
     rw[hk.2];intro h;rw[h]at hl;simp at hl
    obtain⟨hb,he⟩:=vW hne;obtain⟨_,g2,g3⟩:=It (s:=s) hb hop (he.symm.trans hk.2);have hstar:qN s:=by
     intro _;have hP:gr s=(s,[]):=by unfold gr;rw[hrw];exact g2
     rw[hP];simp only;rw[g3];simp
    have hr:jd s=some (gb s):=by rw[FU,aC ⟨hstar,hk.1,hb,hk.2⟩]
    have hok:B1 s (eE s).1 (fK s) (gr s).2=true:=C0.2 ⟨hk.1,hne,.inl hk.2⟩;rw[aC hok];unfold pE;rw[hr];rfl
   .have hr:jd s=none:=mC fun h=>hk ⟨h.2.1,h.2.2.2⟩
    have hok:¬B1 s (eE s).1 (fK s) (gr s).2=true:=fun h=>by
     obtain⟨h1,h2,h3⟩:=C0.1 h;rcases h3 with h3|h3
     .exact hk ⟨h1,h3⟩
     .obtain⟨hb,he⟩:=vW h2;have h3':oL (gb s)=94::s:=by rw[<-he];exact h3
      have ht:=Iu hb hop;rw[h3']at ht;have hm:(94:UInt8)∈aO [46] (oX (gb s)++[[42]]):=by rw[<-ht];simp
      rcases pX 46 _ _ hm with h|⟨w,hw,hcw⟩
      .revert h;decide
      .rcases vx hw hcw with h|h
       .revert h;decide
       .revert h;decide
    rw[ar hok];unfold pE;rw[hr,ar aI,hcn]
  .have hsp:iT s=(7,s):=by simp only[iT,ho,ar hl]
   have hr:jd s=none:=mC fun h=>by
    obtain⟨h1,h2,h3,h4⟩:=h;have he:oL (gb s)=s:=(aC h3:eY (gb s)=oL (gb s)).symm.trans h4;exact hl (It h3 hop he).1
   have h6:fG s=if B1 s 7 (ai (jA s 0).1 46) (jA s 0).2=true then some (gb (94::s))else none:=by
    unfold fG;simp only[hsp];rw[hK7];rfl
   have hRC:pE s=jd (94::s):=by
    unfold pE;rw[hr];rfl
   rw[hRC,h6,FU];by_cases hok:B1 s 7 (ai (jA s 0).1 46) (jA s 0).2=true
   .rw[aC hok];obtain⟨h1,h2,h3⟩:=JJ.1 hok;obtain⟨hb,he⟩:=vW h2;rcases h3 with h3|h3
    .exfalso;rw[he]at h3;have hh:∃w,oL (iv 7 (ai (jA s 0).1 46) (jA s 0).2)=94::w:=by
      unfold oL;exact⟨_,rfl⟩
     obtain⟨w,hw⟩:=hh;exact h94 w (by rw[<-h3,hw])
    .rw[aC ⟨hst7,by rw[hL7];exact h1,by rw[hK7];exact hb,by rw[hK7];exact h3⟩]
   .rw[ar hok,ar];rintro⟨_,g2,g3,g4⟩;rw[hK7]at g3 g4;rw[hL7]at g2;exact hok (JJ.2 ⟨g2,by rw[g4];simp,.inr g4⟩)
abbrev Alt:=List dZ
abbrev Eu:=List Alt
def tZ (a:Alt):D:=.sl 7 (a.map dZ.D)
def RS (a:Alt):(tZ a).bN=true:=rfl
def qW (l k:Nat)(es:List D)(r:List Alt):ij l k es (r.map tZ)=r.map tZ:=qq l k es _ (bA RS _)
def iN (r:Eu):D:=.agg [.sl 1 (r.map tZ)]
def l5 (a:Alt):Bool:=decide (1<=a.length)&&decide (a.length<=6)&&c9 (fun k=>pJ a[k]!) 0 a.length
def lV (r:Eu):Bool:=decide (1<=r.length)&&decide (r.length<=6)&&c9 (fun i=>l5 r[i]!) 0 r.length
def kK (a:Alt):av:=aO [44,32] (a.map eY)
def J8 (r:Eu):av:=aO [32,124,124,32] (r.map kK)
def dZ.lo (c:dZ):Prop:=c.v.pre.length<=1000/\c.v.build.length<=1000
def dZ.lo.sm {c:dZ}(h:c.lo):c.v.sm:=⟨c7 h.1 aG,c7 h.2 aG⟩
def qK (r:Eu):Prop:=∀a∈r,∀c∈a,c.lo
def wR (b:av)(l:List av)(i:Nat):av:=if 0<i then aO b (l.take i)++b else []
def A6 (b:av)(l:List av)(i:Nat)(h:i<l.length):aO b (l.take (i+1))=wR b l i++l[i]! :=s9 b l i h
def aa0 (b:av)(l:List av){i:Nat}(h:¬0<i):aO b (l.take i)=wR b l i:=by
 grind [wR,aO]
def EN {c:dZ}(h:c.lo):(eY c).length<=1100:=by
 unfold eY;split
 .rename_i hb;obtain⟨hv,h0,h3,_⟩:=rL hb;have h1:=Bx c.op;have h2:=wu hv c.parts.toNat;have ht:(mY c).length<=1001:=by
   unfold mY;have:=h.1
   grind
  simp only[oL,bH];omega
 .simp
def uF (b:av)(M:Nat):∀(l:List av),(∀t∈l,t.length<=M)->(aO b l).length<=l.length*(M+b.length)
 |[],_=>by simp[aO]
 |[t],h=>by
  grind [aO]
 |t::u::r,h=>by
  have h1:=h t (.head _);have h2:=uF b M (u::r) fun x hx=>h x (.tail _ hx)
  simp only[aO,bH];simp only[aM,Nat.add_mul,Nat.one_mul]at h2⊢;omega
def JE {α β:Type} [Inhabited α] [Inhabited β](f:α->β)(l:List α){i:Nat}(h:i<l.length):(l.map f)[i]! =f l[i]! :=by
 simp[h]
def Ew {a:Alt}(h:∀c∈a,c.lo)(hl:a.length<=6):(kK a).length<=6612:=by
 have:=uF [44,32] 1100 (a.map eY) (fun t ht=>by
  obtain⟨c,hc,rfl⟩:=eG.1 ht;exact EN (h c hc))
 grind [kK]
def ET {r:Eu}(h:lV r=true){i:Nat}(hi:i<r.length):l5 r[i]! =true:=by
 simp only[lV,bM,bh]at h;exact fN.1 h.2 i ae hi
def AF {a:Alt}(h:l5 a=true):1<=a.length/\a.length<=6:=by
 grind [l5]
def abE {r:Eu}(h:lV r=true)(hs:qK r):(J8 r).length<=40000:=by
 have h6:r.length<=6:=by simp only[lV,bM,bh]at h;exact h.1.2
 have:=uF [32,124,124,32] 6612 (r.map kK) (fun t ht=>by
  obtain⟨a,ha,rfl⟩:=eG.1 ht;obtain⟨i,hi,rfl⟩:=List.mem_iff_getElem.1 ha;have h1:=ET h hi;rw[show r[i]! =r[i]by simp[hi]]at h1;exact Ew (hs _ ha) (AF h1).2)
 grind [J8]
def jI {α β:Type} [Inhabited α](f:α->β)(l:List α){i:Nat}(h:i<l.length):(l.map f).take (i+1)=(l.map f).take i++[f l[i]!]:=by
 rw[List.take_add_one];simp[h]
def ya (r:Eu):Bool:=lV r&&decide ((J8 r).length<=96)
def B7 (r:Eu):av:=if ya r=true then J8 r else []
def aT:av->av->List av
 |[],cur=>[cur]
 |[c],cur=>[cur++[c]]
 |c::d::r,cur=>if c=124/\d=124 then cur::aT r []else aT (d::r) (cur++[c])
def kF:av->av
 |[]=>[]
 |c::r=>if c=32 then kF r else c::r
def eB (s:av):av:=(kF (kF s).reverse).reverse
theorem jF:∀s,(kF s).length<=s.length
 |[]=>aH _
 |c::r=>by
  unfold kF;split
  .have:=jF r;simp only[aM];omega
  .exact aH _
theorem AH (s:av):(eB s).length<=s.length:=by
 grind [jF,kF,eB]
def qL:∀(s cur:av),(aT s cur).length<=s.length+1/\(∀t∈aT s cur,t.length<=cur.length+s.length)
 |[],cur=>by simp[aT]
 |[c],cur=>by simp[aT]
 |c::d::r,cur=>by
  unfold aT;split
  .have:=qL r []
   grind
  .have:=qL (d::r) (cur++[c])
   grind
def wOK (t:av):Bool:=c9 (fun k=>(fG (eB (ai t 44)[k]!)).isSome) 0 (ai t 44).length
def F7 (s:av):Bool:=c9 (fun i=>wOK (aT s [])[i]!) 0 (aT s []).length
def pc (t:av):Alt:=(ai t 44).map fun x=>(fG (eB x)).getD fH
def jB (s:av):Eu:=(aT s []).map pc
def iS (s:av):Eu×Int:=
 if 96<s.length then([],3)else if F7 s=false then([],6)else if lV (jB s)=false then([],6)else if 96<(J8 (jB s)).length then([],3)else(jB s,0)
def kC (s:av):Bool:=decide ((iS s).2=0)&&decide (B7 (iS s).1=s)
theorem ZJ {s:av}(h:s.length<=1000):((fG s).getD fH).lo:=by
 unfold fG;simp only;split
 .have h1:=Gf s;have h2:=FM (iT s).2;exact⟨by show(jA (iT s).2 0).2.length<=1000;omega,by show([]:av).length<=1000;decide⟩
 .exact⟨by show([]:av).length<=1000;decide,by show([]:av).length<=1000;decide⟩
theorem J9 {s:av}(h:s.length<=1000):qK (jB s):=by
 intro a ha c hc;obtain⟨t,ht,rfl⟩:=eG.1 ha;obtain⟨x,hx,rfl⟩:=eG.1 hc;have h1:=(qL s []).2 t ht;have h2:=cG t 44 hx
 grind [AH,ZJ]
def J7 {s:av}:qK (iS s).1/\((iS s).2=0->lV (iS s).1=true):=by
 unfold iS;split
 .exact⟨(fun a ha=>by cases ha),fun h=>by cases h⟩
 .split
  .exact⟨(fun a ha=>by cases ha),fun h=>by cases h⟩
  .split
   .exact⟨(fun a ha=>by cases ha),fun h=>by cases h⟩
   .rename_i hf;split
    .exact⟨(fun a ha=>by cases ha),fun h=>by cases h⟩
    grind [J9]
theorem Tl {s:av}{i:Nat}(cur:av)(h:i+1<s.length)(h1:at8 s i=124)(h2:at8 s (i+1)=124):aT (s.drop i) cur=cur::aT (s.drop (i+2)) []:=by
 rw[nT s i ae,nT s (i+1) h];have e1:s.getD i 0=124:=iY.1 (by simp only[at8]at h1;show(s.getD i 0).toNat=124;omega);have e2:s.getD (i+1) 0=124:=iY.1 (by simp only[at8]at h2;show(s.getD (i+1) 0).toNat=124;omega)
 grind [aT]
def Nb {s:av}{i:Nat}(cur:av)(h:i+1<s.length)(hn:¬(at8 s i=124/\at8 s (i+1)=124)):aT (s.drop i) cur=aT (s.drop (i+1)) (cur++[s.getD i 0]):=by
 rw[nT s i ae,nT s (i+1) h];simp only[aT];rw[ar];rintro⟨e1,e2⟩;exact hn ⟨by simp only[at8,e1];rfl,by simp only[at8,e2];rfl⟩
def Tk {s:av}{i:Nat}(cur:av)(h:s.length<=i+1):aT (s.drop i) cur=[cur++s.drop i]:=by
 have hl:(s.drop i).length<=1:=by rw[kT];omega
 match s.drop i,hl with
 |[],_=>simp[aT]
 |[c],_=>simp[aT]
def ZM {s:av}{i fr:Nat}(h:i<s.length)(hf:fr<=i):(s.take i).drop fr++[s.getD i 0]=(s.take (i+1)).drop fr:=by
 rw[List.take_add_one,List.drop_append_of_le_length (by rw[eF];omega)];simp[h]
def wY (s:av)(i fr:Nat)(acc:List av):Prop:=aT s []=acc++aT (s.drop (max i fr)) ((s.take (max i fr)).drop fr)
def V0 {s:av}{i fr:Nat}{acc:List av}(hI:wY s i fr acc)(h:i+1<s.length)(hc:(at8 s i=124/\at8 s (i+1)=124)/\(fr:Int)<=i):wY s (i+1) (i+2) (acc++[(s.take i).drop fr]):=by
 grind [wY,Tl]
def Zs {s:av}{i fr:Nat}{acc:List av}(hI:wY s i fr acc)(h:i+1<s.length)(hf:fr<=i+1)(hc:(¬at8 s i=124\/¬at8 s (i+1)=124)\/¬(fr:Int)<=i):wY s (i+1) fr acc:=by
 unfold wY at hI⊢;by_cases hl:fr<=i
 .rw[hI,Nat.max_eq_left hl,Nb _ h (by rcases hc with(hc|hc)|hc;exact fun h=>hc h.1;exact fun h=>hc h.2;omega),Nat.max_eq_left ae,ZM ae hl]
 grind
def VZ {s:av}{i fr:Nat}{acc:List av}(hI:wY s i fr acc)(h:s.length<=i+1)(hl:fr<=s.length):aT s []=acc++[s.drop fr]:=by
 unfold wY at hI;rw[hI,Tk _ (by have:=Nat.le_max_left i fr;omega)];congr 2
 conv=>rhs;rw[<-List.take_append_drop (max i fr) s]
 grind
def Hr {t:av}(h:0<t.length)(h0:at8 t 0=32):kF t=kF (t.drop 1):=by
 match t,h with
 |c::r,_=>
  have:c=32:=iY.1 (by have h0:((c.toNat:Nat):Int)=32:=h0;show c.toNat=32;omega);subst this;simp[kF]
theorem EC {t:av}(h:¬(0:Int)<(t.length:Nat)\/¬at8 t 0=32):kF t=t:=by
 match t with
 |[]=>rfl
 |c::r=>
  rcases h with h|h
  .simp only[aM]at h;omega
  .simp only[kF];rw[ar];rintro rfl;exact h rfl
def ED (u:av):av:=(kF u.reverse).reverse
theorem TK {u:av}(h:0<u.length):at8 u.reverse 0=at8 u (u.length-1):=by
 grind [at8]
def V3 {u:av}(h:0<u.length)(h0:at8 u (u.length-1)=32):ED u=ED (u.take (u.length-1)):=by
 unfold ED;rw[Hr (by simpa using h) (by rw[TK h];exact h0)];congr 2;rw[List.drop_reverse]
def RV {u:av}(h:¬(0:Int)<(u.length:Nat)\/¬at8 u (u.length-1)=32):ED u=u:=by
 grind [ED,EC,TK]
def Nd.eq (a b:Nd):jm (Nd.D a).cells (Nd.D b).cells=decide (a=b):=by
 obtain⟨a1,a2,a3,a4,a5⟩:=a;obtain⟨b1,b2,b3,b4,b5⟩:=b
 grind [Nd.D,D.cells,jm,sX,CM]
def l6 (n:Nd):Bool:=decide (n.key=0)&&decide (n.text=[])
def qX (n:Nd):Bool:=decide (n.op=1)&&decide (0<=n.key)&&decide (n.key<3)&&dj n.text&&decide (n.a=0)&&decide (n.b=0)
def kl (n:Nd)(i:Nat)(o:List Int):Option (List Int):=
 if qX n=true then some (o++[(i:Int)])
 else if(((n.op=2/\l6 n=true)/\0<o.length)/\n.a=o[o.length-1]!)/\n.b=0 then some (o.take (o.length-1)++[(i:Int)])
 else if((((n.op=3\/n.op=4)/\l6 n=true)/\1<o.length)/\n.a=o[o.length-2]!)/\n.b=o[o.length-1]! then some (o.take (o.length-2)++[(i:Int)])
 else none
def pG:List Nd->Nat->List Int->Option (List Int)
 |[],_,o=>some o
 |n::r,i,o=>match kl n i o with
  |some o'=>pG r (i+1) o'
  |none=>none
def ri (l:List Nd):Bool:=match pG l 0 []with
 |some o=>decide (l.length=0) ||decide (o.length=1)
 |none=>false
def HA {α:Type} [Inhabited α](l:List α){i:Nat}(h:i<l.length):l.drop i=l[i]! ::l.drop (i+1):=by
 rw[kS h];simp[h]
def ke {l:List Nd}{i:Nat}{o o':List Int}(h:i<l.length)(hs:kl l[i]! i o=some o'):pG (l.drop i) i o=pG (l.drop (i+1)) (i+1) o':=by
 rw[HA l h];simp only[pG,hs]
def iF {l:List Nd}{i:Nat}{o:List Int}(h:i<l.length)(hs:kl l[i]! i o=none):pG (l.drop i) i o=none:=by
 rw[HA l h];simp only[pG,hs]
def H7 {l:List Nd}{i:Nat}{o:List Int}(h:l.length<=i):pG (l.drop i) i o=some o:=by
 rw[nP h];rfl
def Nq {l:List Nd}(h:pG l 0 []=none):ri l=false:=by simp only[ri,h]
def lR {l:List Nd}(h:pG l 0 []=none):(true&&ri l)=false:=by rw[Nq h];rfl
def KO (S:List Int):Int->List Int->Prop
 |e,[]=>e=0
 |e,t::r=>t=e-1/\0<=t/\0<=S[t.toNat]! /\S[t.toNat]! <=t/\KO S S[t.toNat]! r
def Ji {S:List Int}{i:Nat}{v:Int}:∀{r:List Int}{e:Int},e<=i->KO S e r->KO (S.set i v) e r
 |[],e,_,h=>h
 |t::r,e,he,⟨h1,h2,h3,h4,h5⟩=>by
  have hg:(S.set i v)[t.toNat]! =S[t.toNat]! :=by
   grind
  exact⟨h1,h2,by rw[hg];exact h3,by rw[hg];exact h4,by rw[hg];exact Ji ae h5⟩
def adY {S:List Int}{i:Nat}{v:Int}(h:i<S.length):(S.set i v)[i]! =v:=by
 simp[h]
def yP {S:List Int}{i:Nat}{v:Int}{r:List Int}(h:i<S.length)(h0:0<=v)(h1:v<=i)(hc:KO S v r):KO (S.set i v) ((i+1:Nat):Int) ((i:Int)::r):=by
 have hg:(S.set i v)[((i:Nat):Int).toNat]! =v:=by rw[Int.toNat_natCast];exact adY h
 exact⟨ae,ae,by rw[hg];exact h0,by rw[hg];exact h1,by rw[hg];exact Ji ae hc⟩
def yQ {S:List Int}{i:Nat}{o:List Int}(h:KO S (i:Nat) o.reverse):(0<o.length↔1<=i)/\(1<=i->o[o.length-1]! =(i:Int) -1/\0<=S[i-1]! /\S[i-1]! <=(i:Int) -1/\KO S S[i-1]! (o.take (o.length-1)).reverse):=by
 rcases List.eq_nil_or_concat o with rfl|⟨p,t,rfl⟩
 .have h:((i:Nat):Int)=0:=h
  grind
 .rw[List.concat_eq_append,List.reverse_append,List.reverse_singleton,List.singleton_append]at h;obtain⟨h1,h2,h3,h4,h5⟩:=h
  grind
def Jj {S:List Int}{i:Nat}{o:List Int}(h:KO S (i:Nat) o.reverse):(1<o.length↔1<=i/\1<=S[i-1]!)/\(1<o.length->o[o.length-2]! =S[i-1]! -1/\0<=S[(S[i-1]! -1).toNat]! /\S[(S[i-1]! -1).toNat]! <=S[i-1]! -1/\KO S S[(S[i-1]! -1).toNat]! (o.take (o.length-2)).reverse):=by
 obtain⟨h1,h2⟩:=yQ h;by_cases hi:1<=i
 .obtain⟨g1,g2,g3,g4⟩:=h2 hi;have hl:=h1.2 hi;rcases List.eq_nil_or_concat o with rfl|⟨p,t,rfl⟩
  .simp at hl
  .rw[List.concat_eq_append]at g4⊢;rw[List.take_append_of_le_length aI,fq aI]at g4;rcases List.eq_nil_or_concat p with rfl|⟨q,u,rfl⟩
   .have g4:S[i-1]! =0:=g4;exact⟨⟨fun h=>absurd h aI,fun h=>ae⟩,fun h=>absurd h aI⟩
   .rw[List.concat_eq_append]at g4⊢;rw[List.reverse_append,List.reverse_singleton,List.singleton_append]at g4;obtain⟨k1,k2,k3,k4,k5⟩:=g4;subst k1;refine⟨⟨fun _=>⟨hi,ae⟩,fun _=>aI⟩,fun _=>⟨aI,k3,k4, ?_⟩⟩;rw[eh,List.take_append_of_le_length aI,fq aI];exact k5
 .have:¬0<o.length:=fun h=>hi (h1.1 h)
  exact⟨⟨fun h=>ae,fun h=>absurd h.1 hi⟩,fun h=>ae⟩
def abR {S:List Int}{n:Nat}{o:List Int}(t1:0<o.length↔1<=n)(t2:1<=n->o[o.length-1]! =(n:Int) -1/\0<=S[n-1]! /\S[n-1]! <=(n:Int) -1/\KO S S[n-1]! (o.take (o.length-1)).reverse)(u1:1<o.length↔1<=n/\1<=S[n-1]!):
  (decide (n=0) ||decide (o.length=1))=(decide ((n:Nat)=(0:Int)) ||decide (S[n-1]! =0)):=by
 grind
theorem Ff {n:Nd}(h:qX n=true):n.op=1:=by grind [qX]
def Tn {n:Nd}{i:Nat}{o:List Int}(h:qX n=true):kl n i o=some (o++[(i:Int)]):=aC h
def Kd {n:Nd}{i:Nat}{o:List Int}(h1:n.op=1)(h:qX n=false):kl n i o=none:=by
 grind [kl]
def Nf {n:Nd}{i:Nat}{o:List Int}(h1:n.op≠1)(h2:n.op≠2)(h3:n.op≠3)(h4:n.op≠4):kl n i o=none:=by
 grind [kl,Ff]
def BB {S:List Int}{n:Nd}{i:Nat}{o:List Int}(hc:KO S (i:Nat) o.reverse)(h2:n.op=2):kl n i o=if(1<=i/\n.a=(i:Int) -1/\n.b=0)/\l6 n=true then some (o.take (o.length-1)++[(i:Int)])else none:=by
 obtain⟨t1,t2⟩:=yQ hc
 grind [kl,Ff,l6]
def qa {S:List Int}{n:Nd}{i:Nat}{o:List Int}(hc:KO S (i:Nat) o.reverse)(h2:n.op=3\/n.op=4):kl n i o=if(2<=i/\n.b=(i:Int) -1/\1<=S[i-1]! /\n.a=S[i-1]! -1)/\l6 n=true then some (o.take (o.length-2)++[(i:Int)])else none:=by
 obtain⟨t1,t2⟩:=yQ hc;obtain⟨u1,u2⟩:=Jj hc;unfold kl;rw[ar (fun h=>by have:=Ff h;omega),ar (by rintro⟨⟨⟨⟨h,_⟩,_⟩,_⟩,_⟩;omega)];by_cases hk:(2<=i/\n.b=(i:Int) -1/\1<=S[i-1]! /\n.a=S[i-1]! -1)/\l6 n=true
 .grind
 .rw[ar hk,ar]
  grind
def kQ (l:List Nd):Prop:=∀j,j<l.length->(l[j]!.op=1->0<=l[j]!.key/\l[j]!.key<3/\l[j]!.text.length<=12)/\(l[j]!.op≠1->0<=l[j]!.a/\l[j]!.a<j)/\(l[j]!.op≠1->l[j]!.op≠2->0<=l[j]!.b/\l[j]!.b<j)
def SB {l:List Nd}:∀(k i:Nat) (o o':List Int),i+k=l.length->(∀x∈o,0<=x/\x<(i:Int))->pG (l.drop i) i o=some o'->
  ∀j,i<=j->j<l.length->(l[j]!.op=1->0<=l[j]!.key/\l[j]!.key<3/\l[j]!.text.length<=12)/\(l[j]!.op≠1->0<=l[j]!.a/\l[j]!.a<j)/\(l[j]!.op≠1->l[j]!.op≠2->0<=l[j]!.b/\l[j]!.b<j):=by
 intro k;induction k with
 |zero=>intro i o o' h1 h2 h3 j h4 h5;omega
 |succ k ih=>
  intro i o o' h1 h2 h3 j h4 h5;have hi:i<l.length:=ae;cases hs:kl l[i]! i o with
  |none=>rw[iF hi hs]at h3;cases h3
  |some o2=>
   rw[ke hi hs]at h3;have hm:∀m,0<m->m<=o.length->0<=o[o.length-m]! /\o[o.length-m]! <(i:Int):=fun m hm1 hm2=>h2 _ (bL ae)
   have hsub:∀m,∀x∈o.take m++[(i:Int)],0<=x/\x<((i+1:Nat):Int):=fun m x hx=>by
    rcases List.mem_append.1 hx with hx|hx
    .have:=h2 x (jN hx);omega
    .simp only[cT]at hx;omega
   unfold kl at hs;split at hs
   .rename_i hl;cases hs;rcases iZ i j with hj|hj
    .exact ih (i+1) _ o' ae (by have:=hsub o.length;rwa [fq (aH _)]at this) h3 j hj h5
    .obtain rfl:i=j:=ae;simp only[qX,bM,bh]at hl;have hw:=hl.1.1.2;simp only[dj,bM,bh]at hw;exact⟨fun _=>⟨hl.1.1.1.1.2,hl.1.1.1.2,hw.1.2⟩,fun h=>absurd hl.1.1.1.1.1 h,fun h=>absurd hl.1.1.1.1.1 h⟩
   .split at hs
    .rename_i hl;cases hs;rcases iZ i j with hj|hj
     .exact ih (i+1) _ o' ae (hsub _) h3 j hj h5
     .obtain rfl:i=j:=ae;obtain⟨⟨⟨⟨g1,g2⟩,g3⟩,g4⟩,g5⟩:=hl;have:=hm 1 ae ae;exact⟨fun h=>ae,fun _=>by rw[g4];exact this,fun _ h=>absurd g1 h⟩
    .split at hs
     .rename_i hl;cases hs;rcases iZ i j with hj|hj
      .exact ih (i+1) _ o' ae (hsub _) h3 j hj h5
      .obtain rfl:i=j:=ae;obtain⟨⟨⟨⟨g1,g2⟩,g3⟩,g4⟩,g5⟩:=hl;have q1:=hm 1 ae ae;have q2:=hm 2 ae ae;exact⟨fun h=>ae,fun _=>by rw[g4];exact q2,fun _ _=>by rw[g5];exact q1⟩
     .cases hs
def tt {l:List Nd}(h:ri l=true):kQ l:=by
 unfold ri at h;cases ho:pG l 0 []with
 |none=>rw[ho]at h;cases h
 |some o=>exact fun j hj=>SB l.length 0 [] o ae aI ho j (Nat.zero_le _) hj
def ZF (n:Nd)(o:List Int):Bool:=(((decide (n.op=2)&&(decide (n.key=0)&&decide (n.text=[])))&&decide ((0:Int)<(o.length:Nat)))&&decide (n.a=o[o.length-1]!))&&decide (n.b=0)
def ZG (n:Nd)(o:List Int):Bool:=((((decide (n.op=3) ||decide (n.op=4))&&(decide (n.key=0)&&decide (n.text=[])))&&decide ((1:Int)<(o.length:Nat)))&&decide (n.a=o[o.length-2]!))&&decide (n.b=o[o.length-1]!)
def C6 (n:Nd)(i:Nat)(o:List Int):kl n i o=if qX n=true then some (o++[(i:Int)])else if ZF n o=true then some (o.take (o.length-1)++[(i:Int)])else if ZG n o=true then some (o.take (o.length-2)++[(i:Int)])else none:=by
 grind [ZF,l6,ZG,kl]
def Ug {n:Nd}(h:n.op=1):qX n=!((((decide (n.key<0) ||decide (3<=n.key)) ||!dj n.text) ||!decide (n.a=0)) ||!decide (n.b=0)):=by
 grind [qX,dj]
def C5 {S:List Int}{i:Nat}(h:i<S.length)(v:Int):(S.map (D.int .i64)).set (0+i) (Bz ((S.map (D.int .i64)).getD (0+i) .any) 1 1 0 (.int .i64 v))=(S.set i v).map (D.int .i64):=by
 rw[bI,getD_map (q:=D.int .i64) h,List.map_set];rfl
abbrev Mrk:=List Nd
def mU (m:Mrk):D:=.agg [.sl 5 (m.map Nd.D)]
def uI:List av:=[[111,115],[97,114,99,104],[97,98,105]]
def xS (k:Int):av:=if k=0 then [111,115]else if k=1 then [97,114,99,104]else [97,98,105]
def mS (s:av)(b:Bool):av:=if b=true then [40,32]++s++[32,41]else s
def yy (l:List Nd):Nat->Int->av
 |0,_=>[]
 |f+1,i=>
  if l[i.toNat]!.op=1 then xS l[i.toNat]!.key++[32,61,32]++l[i.toNat]!.text
  else if l[i.toNat]!.op=2 then
   if l[l[i.toNat]!.a.toNat]!.op=1 then xS l[l[i.toNat]!.a.toNat]!.key++[32,33,61,32]++l[l[i.toNat]!.a.toNat]!.text
   else [110,111,116,32]++mS (yy l f l[i.toNat]!.a) (!decide (l[l[i.toNat]!.a.toNat]!.op=2))
  else if l[i.toNat]!.op=3 then mS (yy l f l[i.toNat]!.a) (decide (l[l[i.toNat]!.a.toNat]!.op=4))++[32,97,110,100,32]++mS (yy l f l[i.toNat]!.b) (decide (l[l[i.toNat]!.b.toNat]!.op=4) ||decide (l[l[i.toNat]!.b.toNat]!.op=3))
  else yy l f l[i.toNat]!.a++[32,111,114,32]++mS (yy l f l[i.toNat]!.b) (decide (l[l[i.toNat]!.b.toNat]!.op=4))
def oZ (l:List Nd)(i:Int):av:=yy l (i.toNat+1) i
theorem Km {l:List Nd}(hk:kQ l):∀(f g:Nat) (i:Int),0<=i->i<l.length->i<f->i<g->yy l f i=yy l g i
 |0,_,_,_,_,h,_=>ae
 |_,0,_,_,_,_,h=>ae
 |f+1,g+1,i,h0,h1,h2,h3=>by
  obtain⟨k1,k2,k3⟩:=hk i.toNat ae;simp only[yy];by_cases e1:l[i.toNat]!.op=1
  .rw[aC e1,aC e1]
  .rw[ar e1,ar e1];have ka:=k2 e1;rw[Km hk f g l[i.toNat]!.a ae ae ae ae];by_cases e2:l[i.toNat]!.op=2
   .rw[aC e2,aC e2]
   .have kb:=k3 e1 e2;rw[Km hk f g l[i.toNat]!.b ae ae ae ae]
def UZ {l:List Nd}(hk:kQ l){i:Int}(h0:0<=i)(h1:i<l.length):oZ l i=
  if l[i.toNat]!.op=1 then xS l[i.toNat]!.key++[32,61,32]++l[i.toNat]!.text
  else if l[i.toNat]!.op=2 then
   if l[l[i.toNat]!.a.toNat]!.op=1 then xS l[l[i.toNat]!.a.toNat]!.key++[32,33,61,32]++l[l[i.toNat]!.a.toNat]!.text
   else [110,111,116,32]++mS (oZ l l[i.toNat]!.a) (!decide (l[l[i.toNat]!.a.toNat]!.op=2))
  else if l[i.toNat]!.op=3 then mS (oZ l l[i.toNat]!.a) (decide (l[l[i.toNat]!.a.toNat]!.op=4))++[32,97,110,100,32]++mS (oZ l l[i.toNat]!.b) (decide (l[l[i.toNat]!.b.toNat]!.op=4) ||decide (l[l[i.toNat]!.b.toNat]!.op=3))
  else oZ l l[i.toNat]!.a++[32,111,114,32]++mS (oZ l l[i.toNat]!.b) (decide (l[l[i.toNat]!.b.toNat]!.op=4)):=by
 obtain⟨k1,k2,k3⟩:=hk i.toNat ae
 grind [oZ,yy,Km]
def qc (s:av)(b:Bool):(mS s b).length<=s.length+4:=by
 unfold mS;split<;>simp
def wg {k:Int}(h0:0<=k)(h3:k<3):uI[k.toNat]! =xS k:=by
 obtain rfl|rfl|rfl:k=0\/k=1\/k=2:=ae
 .rfl
 .rfl
 .rfl
def aai {k:Int}(h0:0<=k)(h3:k<3):qS (([.str [111,115],.str [97,114,99,104],.str [97,98,105]]:List D).getD (0+k.toNat) .any) 1 1 0 false=.str (xS k):=by
 obtain rfl|rfl|rfl:k=0\/k=1\/k=2:=ae
 .rfl
 .rfl
 .rfl
def rX (k:Int):(xS k).length<=4:=by
 grind [xS]
def Gt {l:List Nd}(hk:kQ l):∀(f:Nat) (i:Int),0<=i->i<l.length->(yy l f i).length+20<=20*2^(f+1)
 |0,i,_,_=>by simp[yy]
 |f+1,i,h0,h1=>by
  obtain⟨k1,k2,k3⟩:=hk i.toNat ae;have hp:20*2^(f+1+1)=20*2^(f+1)+20*2^(f+1):=by rw[Nat.pow_succ 2 (f+1)];omega
  have h1p:1<=2^(f+1):=Nat.one_le_two_pow;simp only[yy];by_cases e1:l[i.toNat]!.op=1
  .rw[aC e1];have:=rX l[i.toNat]!.key;have:=k1 e1;simp only[bH,aM,aX];omega
  .rw[ar e1];have ka:=k2 e1;have la:=Gt hk f l[i.toNat]!.a ae ae;have wa:=fun b=>qc (yy l f l[i.toNat]!.a) b
   by_cases e2:l[i.toNat]!.op=2
   .rw[aC e2];split
    .rename_i e3;have:=rX l[l[i.toNat]!.a.toNat]!.key;have:=((hk l[i.toNat]!.a.toNat ae).1 e3).2.2;simp only[bH,aM,aX];omega
    .have:=wa (!decide (l[l[i.toNat]!.a.toNat]!.op=2));simp only[bH,aM,aX];omega
   .rw[ar e2];have kb:=k3 e1 e2;have lb:=Gt hk f l[i.toNat]!.b ae ae;have wb:=fun b=>qc (yy l f l[i.toNat]!.b) b
    split
    .have:=wa (decide (l[l[i.toNat]!.a.toNat]!.op=4));have:=wb (decide (l[l[i.toNat]!.b.toNat]!.op=4) ||decide (l[l[i.toNat]!.b.toNat]!.op=3));simp only[bH,aM,aX];omega
    .have:=wb (decide (l[l[i.toNat]!.b.toNat]!.op=4));simp only[bH,aM,aX];omega
def vy {l:List Nd}(hk:kQ l)(hl:l.length<=15){i:Int}(h0:0<=i)(h1:i<l.length):(oZ l i).length<=1310720:=by
 have h:=Gt hk (i.toNat+1) i h0 h1;have:2^(i.toNat+1+1)<=2^16:=Nat.pow_le_pow_right ae ae;unfold oZ;omega
def tu (l:List Nd):av:=if l.length=0 then []else oZ l ((l.length:Int) -1)
def Fs (l:List Nd):Bool:=(decide (l.length<=15)&&ri l)&&decide ((tu l).length<=96)
def prN (l:List Nd):av:=if Fs l=true then tu l else []
abbrev PR:=Option (Int×List av×List Nd)
def jY (k:av):Int:=if k=[111,115]then 0 else if k=[97,114,99,104]then 1 else if k=[97,98,105]then 2 else-1
def pe (k s v:av):Bool:=(decide (0<=jY k)&&dj v)&&(decide (s=[61]) ||decide (s=[33,61]))
def BK (k s v:av)(r:List av)(nd:List Nd):Int×List av×List Nd:=
 if s=[33,61]then(((nd++[(⟨1,0,0,jY k,v⟩:Nd)]).length:Nat),r,(nd++[⟨1,0,0,jY k,v⟩])++[⟨2,(nd.length:Nat),0,0,[]⟩])
 else((nd.length:Nat),r,nd++[⟨1,0,0,jY k,v⟩])
def ub (k:av)(w:List av)(nd:List Nd):PR:=match w with
 |s::v::r=>if pe k s v=true then some (BK k s v r nd)else none
 |_=>none
def mW (part:List av->List Nd->PR)(wd:av)(op:Int):Nat->Int->List av->List Nd->PR
 |0,a,w,nd=>some (a,w,nd)
 |f+1,a,w,nd=>match w with
  |[]=>some (a,w,nd)
  |x::r=>if x=wd then(match part r nd with
    |none=>none
    |some (b,w',nd')=>mW part wd op f (nd'.length:Nat) w' (nd'++[⟨op,a,b,0,[]⟩]))
   else some (a,w,nd)
def jK (part:List av->List Nd->PR)(wd:av)(op:Int)(w:List av)(nd:List Nd):PR:=match part w nd with
 |none=>none
 |some (a,w',nd')=>mW part wd op w'.length a w' nd'
def tE:av:=[110,111,116]
def iV:av:=[40]
def mO:av:=[41]
def lr:av:=[97,110,100]
def rD:av:=[111,114]
def ry (r:PR):PR:=match r with
 |some (a,x::w',nd')=>if x=mO then some (a,w',nd')else none
 |_=>none
def notP (r:PR):PR:=match r with
 |some (a,w',nd')=>some ((nd'.length:Nat),w',nd'++[⟨2,a,0,0,[]⟩])
 |none=>none
def wN:Nat->List av->List Nd->PR
 |0,_,_=>none
 |f+1,w,nd=>match w with
  |[]=>none
  |k::r=>if k=tE then notP (wN f r nd)
   else if k=iV then ry (jK (jK (wN f) lr 3) rD 4 r nd)
   else ub k r nd
def PB (w:List av)(nd:List Nd)(w':List av)(nd':List Nd):Prop:=w'.length<=w.length/\nd'.length+2*w'.length<=nd.length+2*w.length/\w'<:+w
def yH (part:List av->List Nd->PR):Prop:=∀w nd a w' nd',part w nd=some (a,w',nd')->PB w nd w' nd'/\w'.length<w.length
def PB.refl (w:List av)(nd:List Nd):PB w nd w nd:=⟨aH _,aH _,nQ _⟩
def PB.trans {w nd w' nd' w2 nd2}(h:PB w nd w' nd')(h2:PB w' nd' w2 nd2):PB w nd w2 nd2:=⟨c7 h2.1 h.1,c7 h2.2.1 h.2.1,h2.2.2.trans h.2.2⟩
def PB.tail {x:av}{w:List av}{nd:List Nd}{w':List av}{nd':List Nd}(h:PB w nd w' nd')(n:Nd):PB (x::w) nd w' (nd'++[n]):=by
 obtain⟨h1,h2,h3⟩:=h;refine⟨by simp only[aM];omega,by simp only[bH,aM,aX];omega,h3.trans (List.suffix_cons x w)⟩
def PB.zy {x:av}{w:List av}{nd:List Nd}{w':List av}{nd':List Nd}(h:PB w nd w' nd'):PB (x::w) nd w' nd':=by
 obtain⟨h1,h2,h3⟩:=h;exact⟨by simp only[aM];omega,by simp only[aM];omega,h3.trans (List.suffix_cons x w)⟩
def Fi {part:List av->List Nd->PR}(hp:yH part)(wd:av)(op:Int):∀(f:Nat) (a:Int) (w:List av) (nd:List Nd) (a':Int) (w':List av) (nd':List Nd),mW part wd op f a w nd=some (a',w',nd')->PB w nd w' nd'
 |0,a,w,nd,a',w',nd',h=>by simp only[mW,bq,eO]at h;obtain⟨rfl,rfl,rfl⟩:=h;exact .refl _ _
 |f+1,a,[],nd,a',w',nd',h=>by simp only[mW,bq,eO]at h;obtain⟨rfl,rfl,rfl⟩:=h;exact .refl _ _
 |f+1,a,x::r,nd,a',w',nd',h=>by
  simp only[mW]at h;by_cases hx:x=wd
  .rw[aC hx]at h;cases hq:part r nd with
   |none=>rw[hq]at h;cases h
   |some t=>
    obtain⟨b,w2,nd2⟩:=t;rw[hq]at h;exact((hp _ _ _ _ _ hq).1.tail _).trans (Fi hp wd op f _ _ _ _ _ _ h)
  .rw[ar hx]at h;simp only[bq,eO]at h;obtain⟨rfl,rfl,rfl⟩:=h;exact .refl _ _
def oJ {part:List av->List Nd->PR}(hp:yH part)(wd:av)(op:Int):yH (jK part wd op):=by
 intro w nd a w' nd' h;unfold jK at h;cases hq:part w nd with
 |none=>rw[hq]at h;cases h
 |some t=>
  obtain⟨b,w2,nd2⟩:=t;rw[hq]at h;obtain⟨h1,h2⟩:=hp _ _ _ _ _ hq;have:=Fi hp wd op _ _ _ _ _ _ _ h;exact⟨h1.trans this,Nat.lt_of_le_of_lt this.1 h2⟩
theorem sL {k:av}{w:List av}{nd:List Nd}{a:Int}{w':List av}{nd':List Nd}(h:ub k w nd=some (a,w',nd')):PB w nd w' nd':=by
 match w,h with
 |s::v::r,h=>
  simp only[ub]at h;split at h
  .simp only[bq]at h;unfold BK at h;have hs:r<:+s::v::r:=(List.suffix_cons v r).trans (List.suffix_cons s _);split at h<;>(simp only[eO]at h;obtain⟨rfl,rfl,rfl⟩:=h;exact⟨by simp only[aM];omega,by simp only[bH,aM,aX];omega,hs⟩)
  .cases h
 |[_],h=>cases h
 |[],h=>cases h
def nq:∀f,yH (wN f)
 |0=>fun w nd a w' nd' h=>by cases h
 |f+1=>by
  intro w nd a w' nd' h
  match w,h with
  |[],h=>cases h
  |k::r,h=>
   simp only[wN]at h;split at h
   .cases hq:wN f r nd with
    |none=>rw[hq]at h;cases h
    |some t=>
     obtain⟨b,w2,nd2⟩:=t;rw[hq]at h;simp only[notP,bq,eO]at h;obtain⟨rfl,rfl,rfl⟩:=h;obtain⟨h1,h2⟩:=nq f _ _ _ _ _ hq;exact⟨h1.tail _,by simp only[aM];omega⟩
   .split at h
    .cases hq:jK (jK (wN f) lr 3) rD 4 r nd with
     |none=>rw[hq]at h;cases h
     |some t=>
      obtain⟨b,w2,nd2⟩:=t;rw[hq]at h;obtain⟨h1,h2⟩:=oJ (oJ (nq f) _ _) _ _ _ _ _ _ _ hq
      match w2,h,h1,h2 with
      |[],h,_,_=>cases h
      |x::w3,h,h1,h2=>
       simp only[ry]at h;split at h
       .simp only[bq,eO]at h;obtain⟨rfl,rfl,rfl⟩:=h;exact⟨(h1.trans (PB.refl _ _).zy).zy,by simp only[aM]at h2⊢;omega⟩
       .cases h
    .exact⟨(sL h).zy,by have:=(sL h).1;simp only[aM];omega⟩
def Mb {p p':List av->List Nd->PR}(hp:yH p)(wd:av)(op:Int){u:Nat}(h:∀w nd,w.length<u->p w nd=p' w nd):∀(f:Nat) (a:Int) (w:List av) (nd:List Nd),w.length<=u->mW p wd op f a w nd=mW p' wd op f a w nd
 |0,a,w,nd,hu=>rfl
 |f+1,a,[],nd,hu=>rfl
 |f+1,a,x::r,nd,hu=>by
  simp only[aM]at hu;simp only[mW];split
  .rw[<-h r nd ae];cases hq:p r nd with
   |none=>rfl
   |some t=>
    obtain⟨b,w2,nd2⟩:=t;have:=hp _ _ _ _ _ hq;exact Mb hp wd op h f _ _ _ ae
  .rfl
def vS {p p':List av->List Nd->PR}(hp:yH p)(wd:av)(op:Int){u:Nat}(h:∀w nd,w.length<u->p w nd=p' w nd):∀w nd,w.length<u->jK p wd op w nd=jK p' wd op w nd:=by
 intro w nd hu;unfold jK;rw[<-h w nd hu];cases hq:p w nd with
 |none=>rfl
 |some t=>
  obtain⟨b,w2,nd2⟩:=t;have:=hp _ _ _ _ _ hq;exact Mb hp wd op h _ _ _ _ ae
def TQ:∀(u f g:Nat) (w:List av) (nd:List Nd),w.length<u->w.length<=f->w.length<=g->wN f w nd=wN g w nd
 |0,_,_,_,_,h,_,_=>absurd h (Nat.not_lt_zero _)
 |u+1,f,g,[],nd,hu,hf,hg=>by cases f<;>cases g<;>rfl
 |u+1,0,_,_::_,_,_,h,_=>by simp at h
 |u+1,_,0,_::_,_,_,_,h=>by simp at h
 |u+1,f+1,g+1,k::r,nd,hu,hf,hg=>by
  simp only[aM]at hu hf hg;have ih:∀w nd,w.length<r.length+1->wN f w nd=wN g w nd:=fun w nd h=>TQ u f g w nd ae ae ae
  simp only[wN];rw[ih r nd ae,vS (oJ (nq f) _ _) rD 4 (vS (nq f) lr 3 ih) r nd ae]
def kq (w:List av)(nd:List Nd):PR:=wN w.length w nd
def kG:List av->List Nd->PR:=jK kq lr 3
def jR:List av->List Nd->PR:=jK kG rD 4
def pV:yH kq:=fun w nd a w' nd' h=>nq _ w nd a w' nd' h
def qh:yH kG:=oJ pV _ _
def CN (k:av)(r:List av)(nd:List Nd):kq (k::r) nd=if k=tE then notP (kq r nd)else if k=iV then ry (jR r nd)else ub k r nd:=by
 show wN (r.length+1) (k::r) nd=_;simp only[wN];have ih:∀w nd,w.length<r.length+1->wN r.length w nd=kq w nd:=fun w nd h=>TQ (r.length+1) _ _ w nd h ae (aH _)
 rw[show wN r.length r nd=kq r nd from rfl,vS (oJ (nq _) _ _) rD 4 (vS (nq _) lr 3 ih) r nd ae];rfl
def HU {part:List av->List Nd->PR}{wd:av}{op:Int}{f:Nat}{a:Int}{nd:List Nd}:mW part wd op f a [] nd=some (a,[],nd):=by cases f<;>rfl
theorem aar {part:List av->List Nd->PR}{wd:av}{op:Int}{f:Nat}{a:Int}{w:List av}{nd:List Nd}(h:w.head? ≠some wd):mW part wd op f a w nd=some (a,w,nd):=by
 cases f with
 |zero=>rfl
 |succ f=>match w,h with
  |[],_=>rfl
  |x::r,h=>simp only[mW];rw[ar (by rintro rfl;exact h rfl)]
def Fj {part:List av->List Nd->PR}(hp:yH part){wd:av}{op:Int}:∀(f g:Nat) (a:Int) (w:List av) (nd:List Nd),w.length<=f->w.length<=g->mW part wd op f a w nd=mW part wd op g a w nd
 |_,_,a,[],nd,_,_=>by rw[HU,HU]
 |0,_,_,_::_,_,h,_=>by simp at h
 |_,0,_,_::_,_,_,h=>by simp at h
 |f+1,g+1,a,x::r,nd,hf,hg=>by
  simp only[aM]at hf hg;simp only[mW];split
  .cases hq:part r nd with
   |none=>rfl
   |some t=>
    obtain⟨b,w2,nd2⟩:=t;have:=hp _ _ _ _ _ hq;exact Fj hp f g _ _ _ ae ae
  .rfl
def Un (part:List av->List Nd->PR)(wd:av)(op:Int)(a:Int)(w:List av)(nd:List Nd):PR:=mW part wd op w.length a w nd
def WO {part:List av->List Nd->PR}(hp:yH part){wd:av}{op:Int}{a:Int}{r:List av}{nd:List Nd}:Un part wd op a (wd::r) nd=match part r nd with
  |none=>none
  |some (b,w',nd')=>Un part wd op (nd'.length:Nat) w' (nd'++[⟨op,a,b,0,[]⟩]):=by
 show mW part wd op (r.length+1) a (wd::r) nd=_;simp only[mW,ba];cases hq:part r nd with
 |none=>rfl
 |some t=>
  obtain⟨b,w2,nd2⟩:=t;have:=hp _ _ _ _ _ hq;exact Fj hp _ _ _ _ _ ae (aH _)
structure PO where
 a:Int
 w:List av
 nd:List Nd
 bad:Bool
def fh (R:PR)(w:List av)(nd:List Nd)(o:PO):Prop:=(R=some (o.a,o.w,o.nd)/\o.bad=false\/R=none/\o.bad=true)/\PB w nd o.w o.nd
def Su (s:av):Option (List Nd):=match jR (ai s 32) []with
 |some (_,[],nd)=>if Fs nd=true then some nd else none
 |_=>none
def oU (s:av):List Nd×Int:=if 96<s.length then([],3)else if s=[]then([],0)else match Su s with
 |some nd=>(nd,0)
 |none=>([],7)
def tf (s:av):Bool:=decide ((oU s).2=0)&&decide (prN (oU s).1=s)
abbrev Li:=List av->D->Bool->D
def jG:Li:=fun w X b=>.agg [.sl 1 (w.map D.str),X,.bool b]
def j5 (W:List av):Li:=fun w X b=>.agg [.sl 1 (W.map D.str),.int .i64 ((W.length-w.length:Nat):Int),X,.bool b]
def ru (Y:Ctx)(k:Nat)(ob:Li)(n:Nat)(am7:List D)(w:List av)(nd:List Nd)(b:Bool)(P:PO->Prop)(V:PO->D):Prop:=
 ∀(nx lp ln:Nat) (m:List (Nat×cr)) (K:D->St->Prop),look m lp=some (.buf k [ob w (.own ln 5 0 nd.length) b])->look m ln=some (.buf 5 (nd.map Nd.D))->lp<nx->ln<nx->
  (∀o,P o->K (V o) ⟨nx+1,(nx,.buf 5 (o.nd.map Nd.D))::ep (cM m ln) lp (.buf k [ob o.w (.own nx 5 0 o.nd.length) o.bad])⟩)->Y.tr n (.ptr lp k 0 0::am7) ⟨nx,m⟩ K
def PrsK (Y:Ctx)(k:Nat)(ob:Li)(n:Nat)(am7:List D)(w:List av)(nd:List Nd)(b:Bool)(P:PO->Prop)(V:PO->D):Prop:=
 ∀(nx lp ln:Nat) (m:List (Nat×cr)) (K:D->St->Prop),look m lp=some (.buf k [ob w (.own ln 5 0 nd.length) b])->look m ln=some (.buf 5 (nd.map Nd.D))->lp<nx->ln<nx->
  (∀o,P o->K (V o) ⟨nx,ep m lp (.buf k [ob o.w (.own ln 5 0 nd.length) o.bad])⟩)->Y.tr n (.ptr lp k 0 0::am7) ⟨nx,m⟩ K
def Ch (k:Nat)(ob:Li)(P:PO->Prop)(V:PO->D):D->List (Nat×cr)->Prop:=fun d m=>∃(o:PO) (j:Nat),2<=j/\P o/\d=V o/\look m 0=some (.buf k [ob o.w (.own j 5 0 o.nd.length) o.bad])/\look m j=some (.buf 5 (o.nd.map Nd.D))
def TI (k:Nat)(ob:Li)(nd:List Nd)(P:PO->Prop)(V:PO->D):D->List (Nat×cr)->Prop:=fun d m=>∃(o:PO),P o/\d=V o/\look m 0=some (.buf k [ob o.w (.own 1 5 0 nd.length) o.bad])/\look m 1=some (.buf 5 (nd.map Nd.D))
def Va:PO->D:=fun o=>.int .i64 o.a
def ain {m:List (Nat×cr)}(x:Nd):xVO m [.a,.a,.a,.a,.a] (Nd.D x):=⟨rfl,rfl,rfl,rfl,rfl,rfl⟩
def aaC {m:List (Nat×cr)}{lp ln:Nat}{w:List av}{nd:List Nd}{b:Bool}(h1:look m lp=some (.buf 3 [jG w (.own ln 5 0 nd.length) b]))(h2:look m ln=some (.buf 5 (nd.map Nd.D))):
  mA m [[.pt [.sl 1 [.a],.sl 5 [.a,.a,.a,.a,.a],.a]]] [.ptr lp 3 0 0]:=by
 refine⟨⟨by simp[gX,h1], ?_⟩,trivial⟩;intro e he;simp only[bG,h1,cT]at he;subst he;refine⟨rfl,⟨by simp[gX,h2], ?_⟩,rfl,rfl⟩;simp only[bG,h2,bR,aL];intro e he;obtain⟨x,_,rfl⟩:=eG.1 he;exact ain x
def bD (w:List av):av:=w.headD []
def cv (w:List av):List av:=if bD w=[]then w else w.drop 1
def eu (w:List av)(b:Bool):Bool:=if bD w=[]then true else b
def wE {w:List av}{x:av}(hx:x≠[])(h:bD w=x):∃r,w=x::r:=by
 match w,h with
 |[],h=>exact absurd h.symm hx
 |y::r,h=>exact⟨r,by rw[show y=x from h]⟩
def abN {w:List av}(h:¬bD w=[]):1<=w.length:=by
 match w,h with
 |[],h=>exact absurd rfl h
 |_::_,_=>simp
def lJ {x:av}{r:List av}(hx:x≠[]):cv (x::r)=r:=ar hx
def lI {x:av}{r:List av}{b:Bool}(hx:x≠[]):eu (x::r) b=b:=ar hx
def XB (w:List av):cv w<:+w:=by
 unfold cv;split
 .exact nQ _
 .exact List.drop_suffix 1 w
def sx (w:List av)(nd:List Nd):PB w nd (cv w) nd:=by
 have h:=XB w;have:=h.length_le;exact⟨this,ae,h⟩
theorem abM {w:List av}{b:Bool}(h:eu w b=false):b=false/\bD w≠[]/\w=bD w::cv w:=by
 unfold eu at h;split at h
 .cases h
 .rename_i hs;refine⟨h,hs, ?_⟩
  match w,hs with
  |x::r,hs=>rw[lJ (x:=x) (r:=r) hs];rfl
def qg (b:Bool)(k:av)(w:List av)(nd:List Nd):PR:=if b=true then none else ub k w nd
theorem L4 {j:Nat}{k:av}(hj:j<3)(h:uI[j]! =k):jY k=(j:Nat):=by
 obtain rfl|rfl|rfl:j=0\/j=1\/j=2:=ae
 all_goals (subst h;rfl)
def HQ {k:av}(h:0<=jY k):∃j,j<3/\uI[j]! =k/\jY k=(j:Nat):=by
 unfold jY at h⊢;by_cases h1:k=[111,115]
 .exact⟨0,ae,h1.symm,by rw[aC h1];rfl⟩
 .by_cases h2:k=[97,114,99,104]
  .exact⟨1,ae,h2.symm,by rw[ar h1,aC h2];rfl⟩
  .by_cases h3:k=[97,98,105]
   .exact⟨2,ae,h3.symm,by rw[ar h1,ar h2,aC h3];rfl⟩
   grind
def Sb (j:Nat)(k s v:av)(bad:Bool):Bool:=!(((!decide (uI[j]! =k) ||bad) ||(!decide (s=[61])&& !decide (s=[33,61]))) ||!dj v)
def Z7 {j:Nat}{k:av}{w:List av}{nd:List Nd}{b:Bool}(hj:j<3)(h:Sb j k (bD w) (bD (cv w)) (eu (cv w) (eu w b))=true):
  qg b k w nd=some (BK k (bD w) (bD (cv w)) (cv (cv w)) nd)/\jY k=(j:Nat)/\eu (cv w) (eu w b)=false:=by
 grind [Sb,L4,abM,qg,ub,pe]
def ac3 {k:av}{w:List av}{nd:List Nd}{b:Bool}(h:∀j,j<3->Sb j k (bD w) (bD (cv w)) (eu (cv w) (eu w b))=false):qg b k w nd=none:=by
 unfold qg;split
 .rfl
 .rename_i hb
  match w with
  |[]=>rfl
  |[_]=>rfl
  |s::v::r=>
   simp only[ub];rw[ar];intro ha;simp only[pe,bM,dw,bh]at ha;obtain⟨⟨h1,h2⟩,h3⟩:=ha;obtain⟨j,hj,hj2,_⟩:=HQ h1;have hs:s≠[]:=by rintro rfl;rcases h3 with h|h<;>cases h
   have hv:v≠[]:=by rintro rfl;cases h2
   have:=h j hj;rw[lJ hs,lI hs,lI hv]at this;simp only[Bool.not_eq_true]at hb;subst hb;revert this;simp only[Sb,bD,List.headD_cons,hj2,h2,decide_true];rcases h3 with rfl|rfl<;>simp
def TL (w:List av)(nd:List Nd):PB w nd (cv (cv w)) nd:=(sx w nd).trans (sx _ nd)
def EA {b:Bool}{k:av}{w:List av}{nd:List Nd}{a:Int}{w':List av}{nd':List Nd}(h:qg b k w nd=some (a,w',nd')):PB w nd w' nd':=by
 grind [qg,sL]
def ZS {w:List av}{nd:List Nd}(h1:bD w≠tE)(h2:bD w≠iV):kq w nd=qg (eu w false) (bD w) (cv w) nd:=by
 match w with
 |[]=>rfl
 |k::r=>
  have h1:k≠tE:=h1;have h2:k≠iV:=h2;rw[CN,ar h1,ar h2];by_cases hk:k=[]
  .subst hk;show ub [] r nd=none
   match r with
   |[]=>rfl
   |[_]=>rfl
   |s::v::r=>rfl
  .rw[lJ hk,lI hk];rfl
def ZH {R:PR}{o:PO}{w:List av}{nd:List Nd}(h:fh R w nd o)(hs:bD o.w≠mO):ry R=none:=by
 rcases h.1 with⟨h1,_⟩|⟨h1,_⟩
 .rw[h1]
  match ho:o.w,hs with
  |[],_=>rfl
  |x::r,hs=>simp only[ry];exact ar hs
 .rw[h1];rfl
def fh.pb {R:PR}{o:PO}{w:List av}{nd:List Nd}(h:fh R w nd o):PB w nd o.w o.nd:=h.2
def UB {r:List av}{nd:List Nd}{o:PO}(h:fh (kq r nd) r nd o):fh (kq (tE::r) nd) (tE::r) nd ⟨(o.nd.length:Nat),o.w,o.nd++[⟨2,o.a,0,0,[]⟩],o.bad⟩:=by
 refine⟨?_,h.2.tail _⟩;rw[CN,aC rfl];rcases h.1 with⟨h1,h2⟩|⟨h1,h2⟩
 .left;rw[h1];exact⟨rfl,h2⟩
 .right;rw[h1];exact⟨rfl,h2⟩
def yX (r:List av)(nd:List Nd):kq (iV::r) nd=ry (jR r nd):=by rw[CN,ar aG,aC rfl]
def Mn {r:List av}{nd:List Nd}{o:PO}(h:fh (jR r nd) r nd o)(hs:¬bD o.w=mO):fh (kq (iV::r) nd) (iV::r) nd ⟨o.a,cv o.w,o.nd,true⟩:=
 ⟨.inr ⟨by rw[yX,ZH h hs],rfl⟩,h.2.zy.trans (sx _ _)⟩
def aaV {r:List av}{nd:List Nd}{o:PO}(h:fh (jR r nd) r nd o)(hs:bD o.w=mO):fh (kq (iV::r) nd) (iV::r) nd ⟨o.a,cv o.w,o.nd,eu o.w o.bad⟩:=by
 refine⟨?_,h.2.zy.trans (sx _ _)⟩;obtain⟨q,hq⟩:=wE aG hs;rw[yX,hq,lJ aG,lI aG];rcases h.1 with⟨h1,h2⟩|⟨h1,h2⟩
 .grind [ry]
 .right;rw[h1];exact⟨rfl,h2⟩
def aaU {w:List av}{nd:List Nd}{o:PO}(hf:kq w nd=qg (eu w false) (bD w) (cv w) nd)(h:fh (qg (eu w false) (bD w) (cv w) nd) (cv w) nd o):fh (kq w nd) w nd o:=
 ⟨by rw[hf];exact h.1,(sx w nd).trans h.2⟩
def aau {s:av}{o:PO}(h:fh (jR (ai s 32) []) (ai s 32) [] o)(hc:((o.bad ||decide ((0:Int)<(o.w.length:Nat))) ||!Fs o.nd)=true):Su s=none:=by
 unfold Su;rcases h.1 with⟨h1,h2⟩|⟨h1,h2⟩
 .grind
 .rw[h1]
def Us {s:av}{o:PO}(h:fh (jR (ai s 32) []) (ai s 32) [] o)(hc:((o.bad ||decide ((0:Int)<(o.w.length:Nat))) ||!Fs o.nd)=false):Su s=some o.nd:=by
 simp only[dt,bC,cq]at hc;unfold Su;rcases h.1 with⟨h1,h2⟩|⟨h1,h2⟩
 .rw[h1]
  match hw:o.w with
  |[]=>simp only[hc.2,ba]
  |x::r=>exact absurd hc.1.2 (by rw[hw];simp)
 grind
def Ur {s:av}{nd:List Nd}(h1:¬96<s.length)(h2:¬s=[])(h:Su s=some nd):oU s=(nd,0):=by simp only[oU,h,ar h1,ar h2]
def Uq {s:av}(h1:¬96<s.length)(h2:¬s=[])(h:Su s=none):oU s=([],7):=by simp only[oU,h,ar h1,ar h2]
def NN (part:List av->List Nd->PR)(wd:av)(op:Int)(R:PR)(w:List av)(nd:List Nd)(o:PO):Prop:=(o.bad=false/\R=Un part wd op o.a o.w o.nd\/o.bad=true/\R=none)/\PB w nd o.w o.nd
def NN.first {part:List av->List Nd->PR}{wd:av}{op:Int}{w:List av}{nd:List Nd}{o:PO}(h:fh (part w nd) w nd o):NN part wd op (jK part wd op w nd) w nd o:=by
 refine⟨?_,h.2⟩;rcases h.1 with⟨h1,h2⟩|⟨h1,h2⟩
 .left;refine⟨h2, ?_⟩;unfold jK;rw[h1];rfl
 grind [jK]
def NN.next {part:List av->List Nd->PR}(hp:yH part){wd:av}{op:Int}{R:PR}{w:List av}{nd:List Nd}{a:Int}{r:List av}{nd1:List Nd}{o:PO}(h:NN part wd op R w nd ⟨a,wd::r,nd1,false⟩)(h2:fh (part r nd1) r nd1 o):
  NN part wd op R w nd ⟨(o.nd.length:Nat),o.w,o.nd++[⟨op,a,o.a,0,[]⟩],o.bad⟩:=by
 refine⟨?_,h.2.trans (h2.2.tail _)⟩;rcases h.1 with⟨_,h1⟩|⟨h1,_⟩
 .rw[WO hp]at h1;rcases h2.1 with⟨g1,g2⟩|⟨g1,g2⟩
  .left;exact⟨g2,by rw[h1,g1]⟩
  .right;exact⟨g2,by rw[h1,g1]⟩
 .cases h1
def NN.last {part:List av->List Nd->PR}{wd:av}{op:Int}{R:PR}{w:List av}{nd:List Nd}{o:PO}(h:NN part wd op R w nd o)(hx:o.bad=true\/o.w.head? ≠some wd):fh R w nd o:=by
 refine⟨?_,h.2⟩;rcases h.1 with⟨h1,h2⟩|⟨h1,h2⟩
 .grind [Un,aar]
 .right;exact⟨h2,h1⟩
def iJ (w:List av)(s:av):Bool:=match w with
 |x::_=>decide (x=s)
 |[]=>false
def q9 (w:List av)(s:av):List av:=if iJ w s=true then w.drop 1 else w
def rB (w:List av)(b:Bool):Bool:=if w=[]then true else b
def pZ {w:List av}{s:av}(h:iJ w s=true):∃r,w=s::r:=by
 match w,h with
 |x::r,h=>exact⟨r,by rw[show x=s by simpa[iJ]using h]⟩
theorem yb (s:av)(r:List av):iJ (s::r) s=true:=by simp[iJ]
def nD (s:av)(r:List av):q9 (s::r) s=r:=by grind [q9,yb]
def sc {w:List av}{s:av}(h:iJ w s=false):q9 w s=w:=by grind [q9]
def Fw {w:List av}{s:av}(h:iJ w s=false):w.head? ≠some s:=by
 match w,h with
 |[],_=>simp
 |x::r,h=>intro e;have e:x=s:=(by simpa using e);subst e;rw[yb]at h;cases h
def UR {W w:List av}(h:w<:+W)(hw:1<=w.length):W.length-w.length<W.length/\W[W.length-w.length]! =w[0]! :=by
 have hl:=h.length_le;have he:=List.suffix_iff_eq_drop.1 h
 grind
def Uw {W w:List av}(h:w<:+W)(s:av):(decide (((W.length-w.length:Nat):Int)<(W.length:Nat))&&decide (W[W.length-w.length]! =s))=iJ w s:=by
 have hl:=h.length_le
 match w with
 |[]=>
  have:decide (((W.length-([]:List av).length:Nat):Int)<(W.length:Nat))=false:=cy aI;rw[this];rfl
 |x::r=>
  obtain⟨h1,h2⟩:=UR h aI;rw[h2,bY ae,gM];rfl
def UK {W:List av}{x:av}{r:List av}{X:D}{b:Bool}(h:(x::r).length<=W.length):Bz (j5 W (x::r) X b) 4 1 1 (.int .i64 (((W.length-(x::r).length:Nat):Int)+1))=j5 W r X b:=by
 have:((W.length-(x::r).length:Nat):Int)+1=((W.length-r.length:Nat):Int):=by simp only[aM]at h⊢;omega
 rw[this];rfl
def ER (w:List av)(nd:List Nd):PR:=match w with
 |k::r=>ub k r nd
 |[]=>none
def Ud (k:av)(i:Nat):Int:=if jY k<i then jY k else-1
theorem Ue (k:av):-1<=jY k:=by
 grind [jY]
theorem adh (k:av):jY k<3:=by
 grind [jY]
def adg {k:av}{i:Nat}(hi:i<3)(h:xS (i:Int)=k):Ud k (i+1)=(i:Int):=by
 have:jY k=(i:Nat):=L4 hi (by rw[<-h];exact wg (k:=(i:Int)) ae ae);unfold Ud;rw[this,aC ae]
def aii {k:av}{i:Nat}(hi:i<3)(h:¬xS (i:Int)=k):Ud k (i+1)=Ud k i:=by
 have h1:jY k≠(i:Nat):=by
  intro e;obtain⟨j,hj,hj2,hj3⟩:=HQ (k:=k) ae;have:j=i:=ae;subst this;exact h (by rw[<-hj2];exact(wg (k:=(j:Int)) ae ae).symm)
 grind [Ue,Ud,jY]
def kAt_0 (k:av):Ud k 0=-1:=by
 have:=Ue k;unfold Ud;split
 .omega
 .rfl
def kAt_3 (k:av):Ud k 3=jY k:=by
 grind [adh,Ud]
def Hp (k s v:av):(((decide (jY k<0) ||!dj v)) ||(!decide (s=[61])&& !decide (s=[33,61])))=!pe k s v:=by
 unfold pe
 grind
def V1 {w:List av}{nd:List Nd}(h:pe (bD w) (bD (w.drop 1)) (bD ((w.drop 1).drop 1))=true):∃r,w=bD w::bD (w.drop 1)::bD ((w.drop 1).drop 1)::r/\ER w nd=some (BK (bD w) (bD (w.drop 1)) (bD ((w.drop 1).drop 1)) r nd):=by
 match w,h with
 |[],h=>cases h
 |[_],h=>simp[pe,bD,dj]at h
 |[_,_],h=>simp[pe,bD,dj]at h
 |k::s::v::r,h=>exact⟨r,rfl,by simp only[ER,ub];exact aC h⟩
def Zx {w:List av}{nd:List Nd}(h:pe (bD w) (bD (w.drop 1)) (bD ((w.drop 1).drop 1))=false):ER w nd=none:=by
 match w,h with
 |[],h=>rfl
 |[_],h=>rfl
 |[_,_],h=>rfl
 |k::s::v::r,h=>simp only[ER,ub];exact ar (by rw[show pe k s v=false from h];simp)
def Jn (w:List av)(nd:List Nd):PB w nd (w.drop 1) nd:=by
 have h:w.drop 1<:+w:=List.drop_suffix 1 w;have:=h.length_le;exact⟨this,ae,h⟩
def HB {w:List av}{nd:List Nd}{a:Int}{w':List av}{nd':List Nd}(h:ER w nd=some (a,w',nd')):PB w nd w' nd':=by
 match w,h with
 |k::r,h=>exact(sL h).zy
def ah4 {w:List av}{nd:List Nd}(h1:iJ w tE=false)(h2:iJ w iV=false):kq w nd=ER w nd:=by
 match w,h1,h2 with
 |[],_,_=>rfl
 |k::r,h1,h2=>
  have h1:¬k=tE:=by simpa[iJ]using h1
  have h2:¬k=iV:=by simpa[iJ]using h2
  rw[CN,ar h1,ar h2];rfl
def V7 {R:PR}{o:PO}{w:List av}{nd:List Nd}(h:fh R w nd o)(hs:iJ o.w mO=false):ry R=none:=by
 rcases h.1 with⟨h1,_⟩|⟨h1,_⟩
 .rw[h1]
  match ho:o.w,hs with
  |[],_=>rfl
  |x::r,hs=>simp only[ry];exact ar (by simpa[iJ]using hs)
 .rw[h1];rfl
def JM {r:List av}{nd:List Nd}{o:PO}(h:fh (jR r nd) r nd o)(hs:iJ o.w mO=false):fh (kq (iV::r) nd) (iV::r) nd ⟨o.a,o.w,o.nd,true⟩:=
 ⟨.inr ⟨by rw[yX,V7 h hs],rfl⟩,h.2.zy⟩
def W6 {r:List av}{nd:List Nd}{o:PO}{q:List av}(h:fh (jR r nd) r nd o)(hs:o.w=mO::q):fh (kq (iV::r) nd) (iV::r) nd ⟨o.a,q,o.nd,o.bad⟩:=by
 refine⟨?_,(h.2.zy (x:=iV)).trans (by rw[hs];exact(PB.refl _ _).zy)⟩;rw[yX];rcases h.1 with⟨h1,h2⟩|⟨h1,h2⟩
 .grind [ry]
 .right;rw[h1];exact⟨rfl,h2⟩
def PB.BC {w w':List av}{nd nd':List Nd}{W:List av}(h:PB w nd w' nd')(hW:w<:+W):w'<:+W:=h.2.2.trans hW
def AR (f:Nat->Int):Nat->Nat->Int
 |_,0=>0
 |i,k+1=>if f i=0 then AR f (i+1) k else f i
def kO (f:Nat->Int)(i n:Nat):Int:=AR f i (n-i)
def rR {f:Nat->Int}{i n:Nat}(h:i<n)(hf:f i=0):kO f i n=kO f (i+1) n:=by
 unfold kO;obtain⟨k,hk⟩:∃k,n-i=k+1:=⟨n-i-1,ae⟩
 grind [AR]
def qn {f:Nat->Int}{i n:Nat}(h:i<n)(hf:f i≠0):kO f i n=f i:=by
 unfold kO;obtain⟨k,hk⟩:∃k,n-i=k+1:=⟨n-i-1,ae⟩
 rw[hk];simp only[AR,hf,aZ]
def rQ {f:Nat->Int}{i n:Nat}(h:n<=i):kO f i n=0:=by
 unfold kO;rw[show n-i=0 by omega];rfl
def sY (f:Nat->Int):Nat->Nat->Int×Int
 |_,0=>(0,0)
 |i,k+1=>if f i=0 then sY f (i+1) k else(f i,((i:Nat):Int))
def gA (f:Nat->Int)(i n:Nat):Int×Int:=sY f i (n-i)
def iq {f:Nat->Int}{i n:Nat}(h:i<n)(hf:f i=0):gA f i n=gA f (i+1) n:=by
 unfold gA;obtain⟨k,hk⟩:∃k,n-i=k+1:=⟨n-i-1,ae⟩
 grind [sY]
def gl {f:Nat->Int}{i n:Nat}(h:i<n)(hf:f i≠0):gA f i n=(f i,((i:Nat):Int)):=by
 unfold gA;obtain⟨k,hk⟩:∃k,n-i=k+1:=⟨n-i-1,ae⟩
 rw[hk];simp only[sY,hf,aZ]
def fT {f:Nat->Int}{i n:Nat}(h:n<=i):gA f i n=(0,0):=by
 unfold gA;rw[show n-i=0 by omega];rfl
def gS (r:Rec)(name yn:av):Int:=if eV name=false then 4 else if name=r.name then 8 else if kC yn=false then 6 else 0
def wfB (l:List av)(i:Nat):Bool:=dj l[i]! && !(decide (0<i)&& !Op.bytesLess l[i-1]! l[i]!)
def kE (l:List av)(alone:Bool):Bool:=(decide (l.length<=6)&&(alone ||decide (l.length=0)))&&c9 (wfB l) 0 l.length
def kH (r:Rec)(w:bX)(alone:Bool):Int:=if gS r w.name w.range≠0 then gS r w.name w.range else if kE w.feats alone=false then 11 else 0
def nW (r:Rec)(l:List bX):Int:=kO (fun i=>kH r l[i]! (decide ((l.length:Int)=1))) 0 l.length
def jS (r:Rec)(n:bo):Int:=if n.any.length=0 then 9 else if 3<n.any.length then 3 else if nW r n.any≠0 then nW r n.any else
 if tf n.when'=false then 7 else if n.option≠[]/\dj n.option=false then 14 else 0
def rH (r:Rec)(b:fZ):Int:=if gS r b.name b.range≠0 then gS r b.name b.range else if tf b.when'=false then 7 else 0
def Mm (l:List bo)(x:av):Bool:=l.any fun n=>decide (n.option=x)
def B2 (l:List bo)(x:av):Bool:=l.any fun n=>decide (n.any.length=1)&&decide (n.any[0]!.name=x)
def kZ (r:Rec)(s:av):Int:=if(ec s).1=2/\Mm r.needs (ec s).2.1=false then 14 else if(ec s).1=3/\B2 r.needs (ec s).2.1=false then 16 else 0
def mj (r:Rec)(of:List av):Int:=kO (fun i=>kZ r of[i]!) 0 of.length
def nB (r:Rec):Int×Int:=gA (fun i=>jS r r.needs[i]!) 0 r.needs.length
def wZ (r:Rec):Int×Int:=gA (fun i=>rH r r.bars[i]!) 0 r.bars.length
def xG (r:Rec):Int×Int:=gA (fun i=>mj r r.feats[i]!.of) 0 r.feats.length
def fP (r:Rec):Int×Int:=if(nB r).1≠0 then nB r else if(wZ r).1≠0 then wZ r else if jn r.feats=false then(11,0)else xG r
def abZ (n:Nat)(al:Bool):(decide ((6:Int)<(n:Nat)) ||(decide ((0:Int)<(n:Nat))&& !al))=!(decide (n<=6)&&(al ||decide (n=0))):=by
 grind
def wf_c (l:List av)(i:Nat):(!dj l[i]! ||(decide ((0:Int)<(i:Nat))&& !Op.bytesLess l[i-1]! l[i]!))=!wfB l i:=by
 unfold wfB
 grind
def wf_2 (l:List av)(al:Bool):(c9 (fun i=>dj l[i]!) 0 l.length&&((decide (l.length<=6)&&rising l)&&(al ||decide (l.length=0))))=kE l al:=by
 grind [c9,wfB,dj,rising,fN,kE]
def itC (k:Int)(x:av)(n:bo):Bool:=(decide (k=2)&&decide (n.option=x)) ||((decide (k=3)&&decide ((n.any.length:Int)=1))&&decide (n.any[0]!.name=x))
def itE (k:Int):Int:=if k=2 then 14 else if k=3 then 16 else 0
def aaf (r:Rec)(s:av):kZ r s=if r.needs.any (itC (ec s).1 (ec s).2.1)=true then 0 else itE (ec s).1:=by
 grind [kZ,itE,Mm,B2,ec,itC]
def Ja {α:Type} [Inhabited α]{c:α->Bool}{l:List α}{i:Nat}(h:i<l.length)(hc:c l[i]! =true):(l.drop i).any c=true:=by
 rw[kS h,List.any_cons]
 grind
def RU {α:Type} [Inhabited α]{c:α->Bool}{l:List α}{i:Nat}(h:i<l.length)(hc:c l[i]! =false):(l.drop i).any c=(l.drop (i+1)).any c:=by
 rw[kS h,List.any_cons]
 grind
def I9 {α:Type}{c:α->Bool}{l:List α}{i:Nat}(h:l.length<=i):(l.drop i).any c=false:=by
 rw[nP h];rfl
def eX:av:=[110,101,101,100]
def ib:av:=[97,110,121]
def fo:av:=[119,104,101,110]
def dh:av:=[111,112,116,105,111,110]
def gG:av:=[98,97,114]
def cw:av:=[102,101,97,116,117,114,101]
def ee:av:=[112,97,99,107,97,103,101]
def jV:av:=[102,117,108,108]
def dW:av:=[98,97,114,101]
def cN (l:List av):av:=aO [32] l++[10]
def jW (w:bX):List av:=[ib,w.name,if w.feats.length=0 then [45]else aO [44] w.feats,if w.bare=true then dW else jV,w.range]
def jf (s:av):av:=if s=[]then []else cN [fo,s]
def tN (s:av):av:=if s=[]then []else cN [dh,s]
def sa (n:bo):av:=cN [eX]++(n.any.map fun w=>cN (jW w)).flatten++jf n.when'++tN n.option
def yL (b:fZ):av:=cN [gG,b.name,b.range]++jf b.when'
def tC (f:ct):av:=cN ([cw,f.name]++f.of)
def tD (r:Rec):av:=cN [ee,r.name,ll r.v]
def gh (r:Rec):av:=tD r++(r.needs.map sa).flatten++(r.bars.map yL).flatten++(r.feats.map tC).flatten
def cE (r:Rec):Int×Int:=if eV r.name=false then(4,0)else if jD r.v=false then(5,0)else if 8<r.needs.length\/8<r.bars.length then(3,0)else
 if(fP r).1≠0 then fP r else if 4096<(gh r).length then(3,0)else(0,0)
def jr (r:Rec):av×Int:=if(cE r).1≠0 then([],(cE r).1)else(gh r,0)
def bX.sm (w:bX):Prop:=(w.name.length<=1048576/\w.range.length<=1048576)/\∀t∈w.feats,t.length<=1048576
def bo.sm (n:bo):Prop:=(∀w∈n.any,w.sm)/\n.when'.length<=1048576/\n.option.length<=1048576
def fZ.sm (b:fZ):Prop:=b.name.length<=1048576/\b.range.length<=1048576/\b.when'.length<=1048576
def mD (r:Rec):Prop:=(r.name.length<=1048576/\r.v.sm)/\(∀n∈r.needs,n.sm)/\(∀b∈r.bars,b.sm)/\y0 r.feats
def Mo {r:Rec}{e:Int×Int}(h:nB r=e)(hn:e.1≠0):fP r=e:=by grind [fP]
def FH {r:Rec}{e:Int×Int}(h0:nB r=(0,0))(h:wZ r=e)(hn:e.1≠0):fP r=e:=by grind [fP]
def Mp {r:Rec}(h0:nB r=(0,0))(h1:wZ r=(0,0))(h:jn r.feats=false):fP r=(11,0):=by grind [fP]
def uQ {r:Rec}{e:Int×Int}(h0:nB r=(0,0))(h1:wZ r=(0,0))(h:jn r.feats=true)(h2:xG r=e):fP r=e:=by grind [fP]
def LN (f:Nat->Int):∀(k i:Nat),(sY f i k).1=0->sY f i k=(0,0)
 |0,_,_=>rfl
 |k+1,i,h=>by
  simp only[sY]at h⊢;by_cases hf:f i=0
  .rw[aC hf]at h⊢;exact LN f k (i+1) h
  .rw[ar hf]at h;exact absurd h hf
def Mq {r:Rec}(h:(fP r).1=0):fP r=(0,0):=by
 unfold fP at h⊢;split
 .rename_i h1;rw[aC h1]at h;exact absurd h h1
 .rename_i h1;rw[ar h1]at h;split
  .rename_i h2;rw[aC h2]at h;exact absurd h h2
  .rename_i h2;rw[ar h2]at h;split
   .rename_i h3;rw[aC h3]at h;cases h
   .rename_i h3;rw[ar h3]at h;exact LN _ _ _ h
def rK {r:Rec}{e:Int×Int}(h0:eV r.name=true)(h1:jD r.v=true)(h2:¬8<r.needs.length)(h3:¬8<r.bars.length)(hp:fP r=e)(hn:e.1≠0):cE r=e:=by
 grind [cE]
def ui {r:Rec}(h0:eV r.name=true)(h1:jD r.v=true)(h2:¬8<r.needs.length)(h3:¬8<r.bars.length)(hp:fP r=(0,0)):cE r=if 4096<(gh r).length then(3,0)else(0,0):=by
 grind [cE]
def zf (r:Rec):Prop:=(eV r.name=true/\jD r.v=true)/\(r.needs.length<=8/\r.bars.length<=8)/\fP r=(0,0)
def kL (n:Nat)(l:List av):List av:=if l.length<=n then l else l.take (n-1)++[aO [32] (l.drop (n-1))]
def eU (n:Nat)(op:Bool)(t:av):List av:=if op=true then kL n (ai t 32)else ai t 32
def eC (w:av)(n:Nat)(op:Bool)(t:av):Option (List av):=
 if(eU n op t)[0]! =w/\(n=0\/(eU n op t).length=n)/\[]∉eU n op t then some (eU n op t)else none
def cu (w:av)(n:Nat)(op:Bool):List av->Option (List av×List av)
 |[]=>none
 |t::r=>match eC w n op t with
  |some l=>some (l,r)
  |none=>none
def cI (ls:List av):av×List av:=match cu fo 2 true ls with
 |some (l,r)=>(l[1]!,r)
 |none=>([],ls)
def mi (l:List av):Bool:=decide (l[3]! =dW) ||decide (l[3]! =jV)
def iH (l:List av):bX:=⟨l[1]!,l[4]!,if l[2]! =[45]then []else ai l[2]! 44,decide (l[3]! =dW)⟩
def cV:List av->List bX×List av
 |[]=>([],[])
 |t::r=>match eC ib 5 true t with
  |some l=>if mi l=true then(iH l::(cV r).1,(cV r).2)else([],t::r)
  |none=>([],t::r)
def qD (ls:List av):av×List av:=match cu dh 2 false ls with
 |some (l,r)=>(l[1]!,r)
 |none=>([],ls)
def eQ (ls:List av):bo×List av:=(⟨(cV ls).1,(cI (cV ls).2).1,(qD (cI (cV ls).2).2).1⟩,(qD (cI (cV ls).2).2).2)
def px:Nat->List av->List bo×List av
 |0,ls=>([],ls)
 |f+1,ls=>match cu eX 1 false ls with
  |some (_,r)=>((eQ r).1::(px f (eQ r).2).1,(px f (eQ r).2).2)
  |none=>([],ls)
def tz:Nat->List av->List fZ×List av
 |0,ls=>([],ls)
 |f+1,ls=>match cu gG 3 true ls with
  |some (l,r)=>(⟨l[1]!,l[2]!,(cI r).1⟩::(tz f (cI r).2).1,(tz f (cI r).2).2)
  |none=>([],ls)
def dS:List av->List ct×List av
 |[]=>([],[])
 |t::r=>match eC cw 0 false t with
  |some l=>if 2<=l.length then(⟨l[1]!,l.drop 2⟩::(dS r).1,(dS r).2)else([],t::r)
  |none=>([],t::r)
def lh:Rec:=⟨[],hX,[],[],[]⟩
def fj (ls:List av):List bo×List av:=px ls.length ls
def jx (ls:List av):List fZ×List av:=tz ls.length ls
def rJ (nm:av)(v:dz)(r:List av):Rec×List av:=(⟨nm,v,(fj r).1,(jx (fj r).2).1,(dS (jx (fj r).2).2).1⟩,(dS (jx (fj r).2).2).2)
def pA (ls:List av):Option (Rec×List av):=match cu ee 3 false ls with
 |some (l,r)=>match hH l[2]! with
  |some v=>some (rJ l[1]! v r)
  |none=>none
 |none=>none
theorem kA {w:av}{n:Nat}{op:Bool}{ls l r:List av}(h:cu w n op ls=some (l,r)):r.length+1=ls.length:=by
 match ls,h with
 |t::q,h=>
  grind [cu]
 |[],h=>cases h
theorem wH (ls:List av):(cI ls).2.length<=ls.length:=by
 grind [cI,kA]
def aaN (ls:List av):(qD ls).2.length<=ls.length:=by
 grind [qD,kA]
def Cd:∀ls:List av,(cV ls).2.length<=ls.length
 |[]=>aH _
 |t::r=>by
  have:=Cd r
  grind [cV]
theorem Bc (ls:List av):(eQ ls).2.length<=ls.length:=by
 have h1:=Cd ls;have h2:=wH (cV ls).2;have h3:=aaN (cI (cV ls).2).2;show(qD (cI (cV ls).2).2).2.length<=_;omega
theorem HY:∀(f g:Nat) (ls:List av),ls.length<=f->ls.length<=g->px f ls=px g ls
 |0,0,_,_,_=>rfl
 |0,g+1,ls,h,_=>by
  have:ls=[]:=pB.1 ae;subst this;rfl
 |f+1,0,ls,_,h=>by
  have:ls=[]:=pB.1 ae;subst this;rfl
 |f+1,g+1,ls,hf,hg=>by
  simp only[px];cases h:cu eX 1 false ls with
  |none=>rfl
  |some p=>
   obtain⟨l,r⟩:=p;have h1:=kA h;have h2:=Bc r;simp only;rw[HY f g _ ae ae]
theorem Ls:∀(f g:Nat) (ls:List av),ls.length<=f->ls.length<=g->tz f ls=tz g ls
 |0,0,_,_,_=>rfl
 |0,g+1,ls,h,_=>by
  have:ls=[]:=pB.1 ae;subst this;rfl
 |f+1,0,ls,_,h=>by
  have:ls=[]:=pB.1 ae;subst this;rfl
 |f+1,g+1,ls,hf,hg=>by
  simp only[tz];cases h:cu gG 3 true ls with
  |none=>rfl
  |some p=>
   obtain⟨l,r⟩:=p;have h1:=kA h;have h2:=wH r;simp only;rw[Ls f g _ ae ae]
def uL {ls l r:List av}(h:cu eX 1 false ls=some (l,r)):fj ls=((eQ r).1::(fj (eQ r).2).1,(fj (eQ r).2).2):=by
 grind [kA,Bc,fj,px,HY,eQ]
def qZ {ls:List av}(h:cu eX 1 false ls=none):fj ls=([],ls):=by
 unfold fj
 match ls,h with
 |[],_=>rfl
 |t::r,h=>simp only[aM,px,h]
def xp {ls l r:List av}(h:cu gG 3 true ls=some (l,r)):jx ls=(⟨l[1]!,l[2]!,(cI r).1⟩::(jx (cI r).2).1,(jx (cI r).2).2):=by
 grind [kA,wH,jx,tz,Ls,cI]
def sM {ls:List av}(h:cu gG 3 true ls=none):jx ls=([],ls):=by
 unfold jx
 match ls,h with
 |[],_=>rfl
 |t::r,h=>simp only[aM,tz,h]
structure j6 where
 r:Rec
 st:Nat
 deriving Inhabited
def qH (t:av)(n:Nat):Option (List av×av):=
 if n<(ai t 32).length/\[]∉(ai t 32).take n/\aO [32] ((ai t 32).drop n)≠[]then some ((ai t 32).take n,aO [32] ((ai t 32).drop n))else none
def Bk (l:List av)(n:Nat):Bool:=decide (l.length=n)&& !l.contains []
def hZ {α:Type}(l:List α)(f:α->α):List α:=match l.getLast? with
 |some x=>l.dropLast++[f x]
 |none=>[]
def E9 (l:List av):Option j6:=if(l.length=3/\l[0]! =ee)/\l[1]! ≠[]then(match hH l[2]! with
 |some v=>some ⟨⟨l[1]!,v,[],[],[]⟩,1⟩
 |none=>none)else none
def AG (x:j6)(t:av):Option j6:=match qH t 4 with
 |some (l,u)=>if x.st=2/\mi l=true then some ⟨{x.r with needs:=hZ x.r.needs fun n=>{n with any:=n.any++[⟨l[1]!,u,if l[2]! =[45]then []else ai l[2]! 44,decide (l[3]! =dW)⟩]}},2⟩else none
 |none=>none
def rj (x:j6)(t:av):Option j6:=match qH t 1 with
 |some (_,u)=>if x.st=2 then some ⟨{x.r with needs:=hZ x.r.needs fun n=>{n with when':=u}},3⟩else if x.st=5 then some ⟨{x.r with bars:=hZ x.r.bars fun b=>{b with when':=u}},6⟩else none
 |none=>none
def fm (x:j6)(t:av):Option j6:=
 let l:=ai t 32
 if x.st=0 then E9 l
 else if l[0]! =eX then(if l.length=1/\x.st<5 then some ⟨{x.r with needs:=x.r.needs++[⟨[],[],[]⟩]},2⟩else none)
 else if l[0]! =ib then AG x t
 else if l[0]! =fo then rj x t
 else if l[0]! =dh then(if Bk l 2=true/\(x.st=2\/x.st=3)then some ⟨{x.r with needs:=hZ x.r.needs fun n=>{n with option:=l[1]!}},4⟩else none)
 else if l[0]! =gG then(match qH t 2 with
  |some (w,u)=>if x.st<=6 then some ⟨{x.r with bars:=x.r.bars++[⟨w[1]!,u,[]⟩]},5⟩else none
  |none=>none)
 else if l[0]! =cw then(if 2<=l.length/\Bk l l.length=true then some ⟨{x.r with feats:=x.r.feats++[⟨l[1]!,l.drop 2⟩]},7⟩else none)
 else none
def eqBb (a b:Bool):jm (D.bool a).cells (D.bool b).cells=decide (a=b):=by cases a<;>cases b<;>rfl
theorem bX.B9 (a b:bX):decide (a=b)=(((decide (a.name=b.name)&&decide (a.range=b.range))&&decide (a.bare=b.bare))&&decide (a.feats=b.feats)):=by
 obtain⟨a1,a2,a3,a4⟩:=a;obtain⟨b1,b2,b3,b4⟩:=b
 grind
theorem bo.B9 (a b:bo):decide (a=b)=((decide (a.when'=b.when')&&decide (a.option=b.option))&&decide (a.any=b.any)):=by
 obtain⟨a1,a2,a3⟩:=a;obtain⟨b1,b2,b3⟩:=b
 grind
def bo.same3 {a b:bo}(e1:a.when'=b.when')(e2:a.option=b.option)(e3:a.any.length=b.any.length):decide (a=b)=c9 (fun i=>decide (a.any[i]! =b.any[i]!)) 0 a.any.length:=by
 grind [bo.B9,su]
theorem Rec.B9 (a b:Rec):decide (a=b)=((((decide (a.name=b.name)&&decide (a.v=b.v))&&decide (a.needs=b.needs))&&decide (a.bars=b.bars))&&decide (a.feats=b.feats)):=by
 obtain⟨a1,a2,a3,a4,a5⟩:=a;obtain⟨b1,b2,b3,b4,b5⟩:=b
 grind
def ct.eq2 {a b:ct}(h1:a.name=b.name)(h2:a.of=b.of):a=b:=by
 obtain⟨a1,a2⟩:=a;obtain⟨b1,b2⟩:=b
 grind
def EX {f:Nat->Int}:∀{k i:Nat},AR f i k=0->∀j,i<=j->j<i+k->f j=0
 |0,i,_,j,h1,h2=>absurd h2 ae
 |k+1,i,h,j,h1,h2=>by
  simp only[AR]at h;by_cases hf:f i=0
  .rw[aC hf]at h;by_cases hj:j=i
   .rw[hj];exact hf
   .exact EX h j ae ae
  .rw[ar hf]at h;exact absurd h hf
def R8 {f:Nat->Int}{n:Nat}(h:kO f 0 n=0)(j:Nat)(hj:j<n):f j=0:=EX h j ae ae
def EY {f:Nat->Int}:∀{k i:Nat},(sY f i k).1=0->∀j,i<=j->j<i+k->f j=0
 |0,i,_,j,h1,h2=>absurd h2 ae
 |k+1,i,h,j,h1,h2=>by
  simp only[sY]at h;by_cases hf:f i=0
  .rw[aC hf]at h;by_cases hj:j=i
   .rw[hj];exact hf
   .exact EY h j ae ae
  .rw[ar hf]at h;exact absurd h hf
def xJ {f:Nat->Int}{n:Nat}(h:(gA f 0 n).1=0)(j:Nat)(hj:j<n):f j=0:=EY h j ae ae
def bX.fit (w:bX):Prop:=w.sm/\(w.feats.length<=6/\∀t∈w.feats,t.length<=12)
def bo.fit (n:bo):Prop:=(n.any.length<=3/\∀w∈n.any,w.fit)/\n.when'.length<=1048576/\n.option.length<=1048576
def ct.fit (x:ct):Prop:=x.sm/\x.of.length<=6
structure Rec.fit (r:Rec):Prop where
 nm:r.name.length<=1048576
 v:r.v.sm
 ns:r.needs.length<=8
 n:∀x∈r.needs,x.fit
 bs:r.bars.length<=8
 b:∀x∈r.bars,x.sm
 fs:r.feats.length<=8
 f:∀x∈r.feats,x.fit
theorem zm {α:Type} [Inhabited α]{l:List α}{x:α}(h:x∈l):∃i,i<l.length/\l[i]! =x:=by
 obtain⟨i,hi,e⟩:=List.mem_iff_getElem.1 h;exact⟨i,hi,by rw[<-e];simp[hi]⟩
def ab6 {r:Rec}{w:bX}{al:Bool}(h:kH r w al=0)(hs:w.sm):w.fit:=by
 refine⟨hs, ?_⟩
 grind [kH,kE,fN,zm,wfB,dj]
def aax {r:Rec}{n:bo}(h:jS r n=0)(hs:n.sm):n.fit:=by
 unfold jS at h;split at h
 .cases h
 split at h
 .cases h
 rename_i h1 h2;split at h
 .rename_i h3;exact absurd h h3
 rename_i h3;refine⟨⟨ae,fun w hw=>?_⟩,hs.2⟩;obtain⟨i,hi,rfl⟩:=zm hw;exact ab6 (R8 (Classical.not_not.1 h3) i hi) (hs.1 _ hw)
def HK {r:Rec}(h:zf r/\mD r):r.fit:=by
 obtain⟨⟨_,⟨h1,h2⟩,hp⟩,⟨s1,s2⟩,s3,s4,s5⟩:=h;have h0:(nB r).1=0/\jn r.feats=true:=by
  grind [fP]
 obtain⟨h3,h4⟩:=h0;simp only[jn,bM,bh,fN]at h4;refine⟨s1,s2,h1,fun x hx=>?_,h2,s4,h4.1,fun x hx=>⟨s5 x hx, ?_⟩⟩
 .obtain⟨i,hi,rfl⟩:=zm hx;exact aax (xJ h3 i hi) (s3 _ hx)
 grind [zm,kN,nv]
def nw (x:UInt8)(B:Nat):∀l:List av,(∀t∈l,t.length<=B)->(aO [x] l).length<=l.length*(B+1)
 |[],_=>by simp[aO]
 |[t],h=>by have:=h t (.head _);simp only[aO,aM,aX];omega
 |t::u::r,h=>by
  have h1:=h t (.head _);have h2:=nw x B (u::r) fun y hy=>h y (.tail _ hy)
  simp only[aO,bH,aM,aX,Nat.succ_mul]at h2⊢;omega
def Gz {w:bX}(h:w.fit):(aO [44] w.feats).length<=6291462:=by
 have h1:=nw 44 1048576 w.feats h.1.2;have h2:=fF (1048576+1) h.2.1;omega
def Kq {w:bX}(h:w.fit):(aO [44] w.feats).length<=78:=by
 have h1:=nw 44 12 w.feats h.2.2;have h2:=fF (12+1) h.2.1;omega
def kI (w:bX):av:=cN (jW w)
def BG {w:bX}(h:w.fit):(kI w).length<=8400000:=by
 have h1:=Gz h;have h2:=h.1.1;simp only[kI,cN,jW,aO,bH,aM,aX]
 grind [ib,dW,jV]
def qb {s:av}(h:s.length<=1048576):(jf s).length<=1048590:=by
 unfold jf;split
 .simp
 .simp only[cN,aO,fo,bH,aM,aX];omega
def aaQ {s:av}(h:s.length<=1048576):(tN s).length<=1048590:=by
 unfold tN;split
 .simp
 .simp only[cN,aO,dh,bH,aM,aX];omega
def zb {α:Type}(q:α->av)(B:Nat){l:List α}(h:∀x∈l,(q x).length<=B)(i:Nat):(((l.take i).map q).flatten).length<=i*B:=by
 have h1:=uu q B (l.take i) fun x hx=>h x (jN hx)
 have h2:=fF B (List.length_take_le i l);omega
theorem v8 {α:Type} [Inhabited α](q:α->av){l:List α}{i:Nat}(h:i<l.length):((l.take (i+1)).map q).flatten=((l.take i).map q).flatten++q l[i]! :=by
 rw[List.take_add_one,List.getElem?_eq_getElem h,List.map_append,List.flatten_append];simp[h]
def WY {n:bo}(h:n.fit):(sa n).length<=27400000:=by
 have h1:=uu kI 8400000 n.any fun w hw=>BG (h.1.2 w hw)
 have h2:=fF 8400000 h.1.1;have h3:=qb h.2.1;have h4:=aaQ h.2.2;have h5:(cN [eX]).length=5:=rfl;unfold kI at h1
 grind [sa]
def ZB {b:fZ}(h:b.sm):(yL b).length<=3145800:=by
 have h1:=qb h.2.2;have h2:=h.1;have h3:=h.2.1;simp only[yL,cN,aO,gG,bH,aM,aX];omega
def HC {x:ct}(h:x.fit):(tC x).length<=8400000:=by
 have h1:=nw 32 1048576 ([cw,x.name]++x.of) (by
  intro t ht;simp only[fY,fS,ca]at ht;rcases ht with rfl|rfl|ht
  .simp[cw]
  .exact h.1.1
  .exact h.1.2.2 _ ht)
 have h2:=h.2
 grind [cw,tC,cN]
def Wy {r:Rec}(h1:r.name.length<=1048576)(h2:r.v.sm):(tD r).length<=3145800:=by
 have h3:=Gw r.v h2;simp only[tD,cN,aO,ee,bH,aM,aX];omega
def eW (n:bo)(j:Nat):av:=cN [eX]++((n.any.take j).map kI).flatten
def ads (n:bo):eW n 0=[110,101,101,100,10]:=rfl
def qB {n:bo}{j:Nat}(h:j<n.any.length):eW n (j+1)=eW n j++kI n.any[j]! :=by grind [eW,v8,kI]
def Ba {n:bo}{j:Nat}(h:n.any.length<=j):sa n=eW n j++jf n.when'++tN n.option:=by
 rw[eW,fq h];rfl
def HW {n:bo}(h:n.fit)(j:Nat)(hj:j<=3):(eW n j).length<=25200005:=by
 have h1:=zb kI 8400000 (fun w hw=>BG (h.1.2 w hw)) j;have h2:=fF 8400000 hj;have h5:(cN [eX]).length=5:=rfl
 grind [eW]
def lZ (r:Rec)(i:Nat):av:=tD r++((r.needs.take i).map sa).flatten
def Gp (r:Rec)(i:Nat):av:=lZ r r.needs.length++((r.bars.take i).map yL).flatten
def Iy (r:Rec)(i:Nat):av:=Gp r r.bars.length++((r.feats.take i).map tC).flatten
def abS (r:Rec):lZ r 0=tD r:=by simp[lZ]
def abT (r:Rec):Gp r 0=lZ r r.needs.length:=by simp[Gp]
def abU (r:Rec):Iy r 0=Gp r r.bars.length:=by simp[Iy]
def Kj (r:Rec):Iy r r.feats.length=gh r:=by grind [Iy,Gp,lZ,gh]
def oY {r:Rec}{i:Nat}(h:i<r.needs.length):lZ r (i+1)=lZ r i++sa r.needs[i]! :=by grind [lZ,v8,sa]
def Nr {r:Rec}{i:Nat}(h:i<r.bars.length):Gp r (i+1)=Gp r i++yL r.bars[i]! :=by grind [Gp,v8,yL]
def Ns {r:Rec}{i:Nat}(h:i<r.feats.length):Iy r (i+1)=Iy r i++tC r.feats[i]! :=by grind [Iy,v8,tC]
def Kh {r:Rec}(h:r.fit)(i:Nat)(hi:i<=r.needs.length):(lZ r i).length<=222400000:=by
 have a0:=Wy h.nm h.v;have a1:=zb sa 27400000 (fun x hx=>WY (h.n x hx)) i;have b1:=fF 27400000 (c7 hi h.ns);simp only[lZ,bH];omega
def Ki {r:Rec}(h:r.fit)(i:Nat)(hi:i<=r.bars.length):(Gp r i).length<=247600000:=by
 have a0:=Kh h r.needs.length (aH _);have a1:=zb yL 3145800 (fun x hx=>ZB (h.b x hx)) i;have b1:=fF 3145800 (c7 hi h.bs);simp only[Gp,bH];omega
def UX {r:Rec}(h:r.fit)(i:Nat)(hi:i<=r.feats.length):(Iy r i).length<=314800000:=by
 have a0:=Ki h r.bars.length (aH _);have a1:=zb tC 8400000 (fun x hx=>HC (h.f x hx)) i;have b1:=fF 8400000 (c7 hi h.fs);simp only[Iy,bH];omega
def uh {r:Rec}(h:(cE r).1=0):zf r:=by
 unfold cE at h;split at h
 .cases h
 split at h
 .cases h
 split at h
 .cases h
 rename_i a b c;split at h
 .rename_i d;exact absurd h d
 rename_i d;exact⟨⟨by simpa using a,by simpa using b⟩,⟨ae,ae⟩,Mq (Classical.not_not.1 d)⟩
def sumR (r:Rec):Int:=if(jr r).2≠0 then 0 else sumL (jr r).1
def eS (l:List av):dz×Bool:=if l.length=3 then(⟨fe l[0]!,fe l[1]!,fe l[2]!,[],[]⟩,(gV l[0]! &&gV l[1]!)&&gV l[2]!)else(hX,false)
def ZN {c:UInt8}(h:bJ c.toNat=true):dg (c.toNat-48)=c:=by
 simp only[bJ,bM,bh]at h;have h1:48<=c.toNat:=ae;have h2:c.toNat<=57:=ae;apply iY.1;simp only[dg];simp;omega
def BN (s:av)(h0:s≠[])(hd:∀c∈s,bJ c.toNat=true)(hz:1<s.length->at8 s 0≠48):ea (ed s)=s:=by
 obtain⟨r,c,rfl⟩:∃r c,s=r++[c]:=⟨s.dropLast,s.getLast h0,(List.dropLast_concat_getLast h0).symm⟩
 have hc:=hd c aI;have hc2:=hc;simp only[bJ,bM,bh]at hc2;rw[FA];by_cases hr:r=[]
 .subst hr;have:ed ([]:av)=0:=rfl;rw[this,nS ae];simp[ZN hc]
 .have hz0:at8 (r++[c]) 0≠48:=hz (by have:=List.length_pos_iff.2 hr;simp only[bH,List.length_singleton];omega);have e0:at8 (r++[c]) 0=at8 r 0:=by
   cases r with
   |nil=>exact absurd rfl hr
   |cons b q=>rfl
  have ih:=BN r hr (fun x hx=>hd x (by simp[hx])) (fun _=>by rw[<-e0];exact hz0);have hn:1<=ed r:=by
   cases r with
   |nil=>exact absurd rfl hr
   |cons b q=>
    grind [bJ,at8,H4]
  rw[pL ae,show(ed r*10+(c.toNat-48)) /10=ed r by omega,show(ed r*10+(c.toNat-48))%10=c.toNat-48 by omega,ih,ZN hc]
termination_by s.length
decreasing_by all_goals simp_all
def AL {t:av}(h:gV t=true):ea (fe t).toNat=t:=by
 have h2:=h;simp only[gV,bM,bh,fN,bE,ef,bC]at h2;obtain⟨⟨⟨⟨h3,_⟩,h4⟩,h5⟩,_⟩:=h2;rw[fe,aC h,Int.toNat_natCast];refine BN t (by rintro rfl;simp at h3) (fun c hc=>?_) (fun h=>?_)
 .obtain⟨i,hi,rfl⟩:=List.mem_iff_getElem.1 hc
  grind [at8]
 grind
def tl (s:av)(b:Int):s.take (aP s b).2.length=(aP s b).2:=by
 grind [aP,ji]
theorem nG (s:av)(b:Int):(s.drop (aP s b).2.length=[]/\(aP s b).1=[])\/∃x:UInt8,(x.toNat:Int)=b/\s.drop (aP s b).2.length=x::(aP s b).1:=by
 unfold aP ji;split
 .rename_i k h;right;obtain⟨hk,hx,_⟩:=List.findIdx?_eq_some_iff_getElem.1 h;simp only[bR]at hk hx;refine⟨s[k],by simpa using hx, ?_⟩;simp only[eF,bI];rw[show min k s.length=k by omega,kS hk]
 .left;simp
def dV (s:av):dz:=⟨(eS (ai (aP (aP s 43).2 45).2 46)).1.major,(eS (ai (aP (aP s 43).2 45).2 46)).1.minor,(eS (ai (aP (aP s 43).2 45).2 46)).1.patch,(aP (aP s 43).2 45).1,(aP s 43).1⟩
def Lz {s:av}{b:Int}{a r:av}(h:(s.drop (aP s b).2.length=[]/\(aP s b).1=[])\/∃x:UInt8,(x.toNat:Int)=b/\s.drop (aP s b).2.length=x::(aP s b).1)(x:UInt8)(hx:(x.toNat:Int)=b):((s.drop (aP s b).2.length).length≠1->s.drop (aP s b).2.length=if(aP s b).1=[]then []else x::(aP s b).1)/\((s.drop (aP s b).2.length).length=1->(aP s b).1=[]):=by
 rcases h with⟨h1,h2⟩|⟨y,hy,h1⟩
 .rw[h1,h2];simp
 .have:y=x:=iY.1 ae
  grind
def abY (s:av):hH s=if(((eS (ai (aP (aP s 43).2 45).2 46)).2=true/\((aP s 43).2.drop (aP (aP s 43).2 45).2.length).length≠1)/\(s.drop (aP s 43).2.length).length≠1)/\jD (dV s)=true then some (dV s)else none:=by
 have t1:=tl s 43;have d1:=Lz (a:=[]) (r:=[]) (nG s 43) 43 rfl;have t2:=tl (aP s 43).2 45;have d2:=Lz (a:=[]) (r:=[]) (nG (aP s 43).2 45) 45 rfl;have e1:=List.take_append_drop (aP s 43).2.length s;have e2:=List.take_append_drop (aP (aP s 43).2 45).2.length (aP s 43).2;rw[t1]at e1;rw[t2]at e2;unfold hH dV;dsimp only;generalize aP s 43=A at*
 generalize aP A.2 45=B at*
 have hj:=iz (b:=46) (x:=46) rfl B.2;generalize ai B.2 46=L at*
 unfold eS;by_cases hT:L.length=3/\gV L[0]! =true/\gV L[1]! =true/\gV L[2]! =true
 .rw[aC hT];obtain⟨h3,n0,n1,n2⟩:=hT;rw[aC h3];simp only[n0,n1,n2,Bool.and_self,cj];by_cases hv:jD ⟨fe L[0]!,fe L[1]!,fe L[2]!,B.1,A.1⟩=true
  .simp only[hv,cj,cb,ll,ba,vz,AL n0,AL n1,AL n2];have hB:L[0]! ++([46]:av)++L[1]! ++([46]:av)++L[2]! =B.2:=by
    rw[<-hj]
    match L,h3 with
    |[a,b,c],_=>simp[aO]
   rw[hB];by_cases c1:(s.drop A.2.length).length=1
   .have h1:=d1.2 c1;rw[ar,ar (fun h=>h.2 c1)];intro h;have h':=ak List.length h;have h2:=ak List.length e1;have h4:=ak List.length e2;simp only[h1,ba,bH,aX]at h' h2 h4;by_cases c2:(A.2.drop B.2.length).length=1
    .rw[aC (d2.2 c2)]at h';simp only[aX]at h';omega
    .rw[<-d2.1 c2]at h';omega
   .by_cases c2:(A.2.drop B.2.length).length=1
    .have h1:=d2.2 c2;rw[ar,ar (fun h=>h.1 c2)];intro h;have h':=ak List.length h;have h2:=ak List.length e1;have h4:=ak List.length e2;rw[<-d1.1 c1]at h';simp only[h1,ba,bH,aX]at h' h2 h4;omega
    .rw[<-d1.1 c1,<-d2.1 c2,e2,e1,aC rfl,aC ⟨c2,c1⟩]
  .rw[ar (fun h=>hv h.1),ar (fun h=>hv h.2)]
 .rw[ar hT,ar];rintro⟨⟨⟨h,_⟩,_⟩,_⟩;split at h
  .rename_i h3;simp only[bM]at h;exact hT ⟨h3,h.1.1,h.1.2,h.2⟩
  .cases h
def Ts {s:av}{b:Int}(h:s.drop (aP s b).2.length≠[]):1<=(s.drop (aP s b).2.length).length/\(s.drop (aP s b).2.length).drop 1=(aP s b).1:=by
 grind [nG]
def Tr {s:av}{b:Int}(h:s.drop (aP s b).2.length=[]):(aP s b).1=[]:=by
 grind [nG]
def Tu (l:List av):(eS l).1=⟨(eS l).1.major,(eS l).1.minor,(eS l).1.patch,[],[]⟩:=by
 unfold eS;split<;>rfl
def A3 (l:List av)(x:av)(i:Nat):Int:=match(l.drop i).findIdx? (fun t=>decide (x=t))with
 |some k=>((i+k:Nat):Int)
 |none=>-1
def ac5 {l:List av}{x:av}{i:Nat}(h:i<l.length)(he:x=l[i]!):A3 l x i=(i:Nat):=by
 unfold A3;rw[kS h,List.findIdx?_cons]
 grind
def ac6 {l:List av}{x:av}{i:Nat}(h:i<l.length)(he:¬x=l[i]!):A3 l x i=A3 l x (i+1):=by
 unfold A3;have:¬x=l[i]:=by simpa[h]using he
 rw[kS h,List.findIdx?_cons]
 grind
def aab {l:List av}{x:av}{i:Nat}(h:l.length<=i):A3 l x i=-1:=by
 unfold A3;rw[nP h];rfl
def aac (l:List av)(x:av):decide (0<=A3 l x 0)=decide (x∈l):=by
 grind [A3]
structure Ld where
 ls:List av
 at':Nat
 deriving Inhabited,DecidableEq
def Ld.D (r:Ld):D:=.agg [.sl 1 (r.ls.map D.str),.int .i64 (r.at':Nat)]
def Ld.rest (r:Ld):List av:=r.ls.drop r.at'
def Ld.sm (r:Ld):Prop:=(r.at'<=r.ls.length/\r.ls.length<=1048577)/\∀t∈r.ls,t.length<=1048576
def Ld.to (r:Ld)(q:List av):Ld:=⟨r.ls,r.ls.length-q.length⟩
def eZ (n:Int)(t:av):List av:=if n<0 then ai t 32 else kL n.toNat (ai t 32)
def IF (n:Nat)(op:Bool)(t:av):eZ (if op=true then(n:Int)else-1) t=eU n op t:=by
 grind [eZ,eU]
def Bl:Option (List av×List av)->D
 |none=>.bg
 |some (l,_)=>.sl 1 (l.map D.str)
def Ld.after (r:Ld)(o:Option (List av×List av)):Ld:=match o with
 |none=>r
 |some _=>⟨r.ls,r.at'+1⟩
def Ld.abD {r:Ld}(h:r.ls.length<=r.at'):r.rest=[]:=nP h
def Ld.wy {r:Ld}(h:r.at'<r.ls.length):r.rest=r.ls[r.at']! ::r.ls.drop (r.at'+1):=by
 unfold Ld.rest;rw[kS h];simp[h]
def XI (n:Nat)(op:Bool)(t:av)(h:op=true->1<=n):1<=(eU n op t).length:=by
 grind [ai,eN,eU,kL]
def Mf {w:av}{n:Nat}{op:Bool}{t:av}(h:((¬(eU n op t)[0]! =w\/((eU n op t).length:Int)<1)\/((0:Int)<n/\¬((eU n op t).length:Int)=n))\/[]∈eU n op t)(h1:1<=(eU n op t).length):eC w n op t=none:=by
 grind [eC]
def H2 {w:av}{n:Nat}{op:Bool}{t:av}(h:(((eU n op t)[0]! =w/\¬((eU n op t).length:Int)<1)/\(¬(0:Int)<n\/((eU n op t).length:Int)=n))/\¬[]∈eU n op t):eC w n op t=some (eU n op t):=by
 grind [eC]
def nN (x:j6):List av->j6×List av
 |[]=>(x,[])
 |t::r=>match fm x t with
  |some y=>nN y r
  |none=>(x,t::r)
theorem jH {x y:j6}{t:av}{r:List av}(h:fm x t=some y):nN x (t::r)=nN y r:=by simp only[nN,h]
theorem wA {x:j6}{t:av}{r:List av}(h:fm x t=none):nN x (t::r)=(x,t::r):=by simp only[nN,h]
def Gg (t:av)(b:Int):1<=(ai t b).length:=eN b t []
theorem wF {α:Type} [Inhabited α]{l:List α}{n:Nat}(h:1<=n):(l.take n)[0]! =l[0]! :=by
 grind
theorem aah (b:av)(hb:b≠[]):∀l:List av,2<=l.length->aO b l≠[]
 |[],h=>by simp at h
 |[a],h=>by simp at h
 |a::c::r,_=>by
  rw[eK b a (c::r) aI];intro h;have:=List.append_eq_nil_iff.1 h;have:=List.append_eq_nil_iff.1 this.1;exact hb this.2
theorem drop_one {α:Type} [Inhabited α]{l:List α}{n:Nat}(h:l.length=n+1):l.drop n=[l[n]!]/\l=l.take n++[l[n]!]:=by
 have h1:l.drop n=[l[n]!]:=by
  rw[kS ae,nP ae];simp[show n<l.length by omega]
 exact⟨h1,by rw[<-h1,List.take_append_drop]⟩
theorem Bh {w:av}{n:Nat}(h1:1<=n)(t:av):
  eC w (n+1) true t=(match qH t n with
   |some (l,u)=>if l[0]! =w then some (l++[u])else none
   |none=>none):=by
 unfold eC qH eU
 grind [ai,kL,drop_one,aO,wF,aah]
theorem Bw {t:av}{n:Nat}{l:List av}{u:av}(h:qH t n=some (l,u)):l=(ai t 32).take n/\u=aO [32] ((ai t 32).drop n)/\n<(ai t 32).length/\[]∉l/\u≠[]:=by
 grind [qH]
def wm {w:av}{n:Nat}{t:av}{q:List av}(h1:1<=n)(h:eC w (n+1) true t=some q):∃l u,qH t n=some (l,u)/\(ai t 32)[0]! =w/\q=l++[u]/\l.length=n:=by
 grind [Bh,qH,Bw,wF]
theorem adw {w:av}{n:Nat}{t:av}(h1:1<=n)(h:eC w (n+1) true t=none)(hw:(ai t 32)[0]! =w):qH t n=none:=by
 grind [Bh,qH,Bw,wF]
theorem CP {α:Type} [Inhabited α]{l r:List α}{i:Nat}(h:i<l.length):(l++r)[i]! =l[i]! :=by
 grind
theorem E8 {α:Type} [Inhabited α]{l:List α}{u:α}{i:Nat}(h:l.length=i):(l++[u])[i]! =u:=by
 subst h;simp
theorem H0 {w:av}{n:Nat}{t:av}:eC w n false t=if(ai t 32)[0]! =w/\(n=0\/(ai t 32).length=n)/\[]∉ai t 32 then some (ai t 32)else none:=by
 grind [eC,eU]
theorem uP {l:List av}{n:Nat}:Bk l n=true↔l.length=n/\[]∉l:=by
 unfold Bk;simp
def GY (t:av):Option (List av):=match eC ib 5 true t with
 |some l=>if mi l=true then some l else none
 |none=>none
def yZ (t:av):Option (List av):=match eC cw 0 false t with
 |some l=>if 2<=l.length then some l else none
 |none=>none
def No (p:av->Option (List av))(ls:List av):Prop:=∀t r,ls=t::r->p t=none
theorem fQ {α:Type}(l:List α)(a:α)(f:α->α):hZ (l++[a]) f=l++[f a]:=by
 unfold hZ;simp
def Gy:eX≠ib/\eX≠fo/\eX≠dh/\eX≠gG/\eX≠cw/\ib≠fo/\ib≠dh/\ib≠gG/\ib≠cw/\fo≠dh/\fo≠gG/\fo≠cw/\dh≠gG/\dh≠cw/\gG≠cw:=aG
def Xy {x:j6}{t:av}{q:List av}(h0:x.st≠0)(h5:x.st<5)(h:eC eX 1 false t=some q):fm x t=some ⟨{x.r with needs:=x.r.needs++[⟨[],[],[]⟩]},2⟩:=by
 grind [H0,ai,fm]
theorem abJ {x:j6}{t:av}{q:List av}(h2:x.st=2)(h:GY t=some q):fm x t=some ⟨{x.r with needs:=hZ x.r.needs fun n=>{n with any:=n.any++[iH q]}},2⟩:=by
 unfold GY at h;cases hn:eC ib 5 true t with
 |none=>rw[hn]at h;cases h
 |some l=>
  rw[hn]at h;simp only at h;split at h
  .rename_i ho;obtain rfl:=bQ h;obtain⟨l0,u,e1,e2,rfl,e4⟩:=wm ae hn;have ho':mi l0=true:=by
    unfold mi at ho⊢;rw[CP ae]at ho;exact ho
   have hw:=Gy
   grind [fm,AG,iH,CP,E8]
  .cases h
def To {x:j6}{t:av}{q:List av}(h2:x.st=2)(h:eC fo 2 true t=some q):fm x t=some ⟨{x.r with needs:=hZ x.r.needs fun n=>{n with when':=q[1]!}},3⟩:=by
 obtain⟨l0,u,e1,e2,rfl,e4⟩:=wm (n:=1) ae h;have hw:=Gy
 grind [fm,rj,E8]
def Tp {x:j6}{t:av}{q:List av}(h2:x.st=5)(h:eC fo 2 true t=some q):fm x t=some ⟨{x.r with bars:=hZ x.r.bars fun n=>{n with when':=q[1]!}},6⟩:=by
 obtain⟨l0,u,e1,e2,rfl,e4⟩:=wm (n:=1) ae h;have hw:=Gy
 grind [fm,rj,E8]
def Ng {x:j6}{t:av}{q:List av}(h2:x.st=2\/x.st=3)(h:eC dh 2 false t=some q):fm x t=some ⟨{x.r with needs:=hZ x.r.needs fun n=>{n with option:=q[1]!}},4⟩:=by
 rw[H0]at h;split at h
 .rename_i hc;obtain⟨e1,e2,e3⟩:=hc;obtain rfl:=bQ h;have e2:(ai t 32).length=2:=by rcases e2 with h|h<;>omega
  have hw:=Gy;have h0:¬x.st=0:=ae;unfold fm;simp only[h0,e1,Ne.symm hw.2.2.1,Ne.symm hw.2.2.2.2.2.2.1,Ne.symm hw.2.2.2.2.2.2.2.2.2.1,aZ,ba,uP.2 ⟨e2,e3⟩,h2,cC]
 .cases h
def abK {x:j6}{t:av}{q:List av}(h0:x.st≠0)(h6:x.st<=6)(h:eC gG 3 true t=some q):fm x t=some ⟨{x.r with bars:=x.r.bars++[⟨q[1]!,q[2]!,[]⟩]},5⟩:=by
 obtain⟨l0,u,e1,e2,rfl,e4⟩:=wm (n:=2) ae h;have hw:=Gy;unfold fm
 grind
def Xx {x:j6}{t:av}{q:List av}(h0:x.st≠0)(h:yZ t=some q):fm x t=some ⟨{x.r with feats:=x.r.feats++[⟨q[1]!,q.drop 2⟩]},7⟩:=by
 unfold yZ at h;rw[H0]at h;split at h
 .rename_i l hl;split at hl
  .rename_i hc;obtain rfl:=bQ hl;split at h
   .rename_i h2;obtain rfl:=bQ h;obtain⟨e1,_,e3⟩:=hc;have hw:=Gy;unfold fm;simp only[h0,e1,Ne.symm hw.2.2.2.2.1,Ne.symm hw.2.2.2.2.2.2.2.2.1,Ne.symm hw.2.2.2.2.2.2.2.2.2.2.2.1,Ne.symm hw.2.2.2.2.2.2.2.2.2.2.2.2.2.1,Ne.symm hw.2.2.2.2.2.2.2.2.2.2.2.2.2.2,aZ,ba,h2,uP.2 ⟨rfl,e3⟩,cC]
   .cases h
  .cases hl
 .cases h
def ad0 {x:j6}{t:av}(h0:x.st≠0)(h1:x.st<5->eC eX 1 false t=none)(h2:x.st=2->GY t=none)(h3:x.st=2\/x.st=5->eC fo 2 true t=none)
  (h4:x.st=2\/x.st=3->eC dh 2 false t=none) (h5:x.st<=6->eC gG 3 true t=none) (h6:yZ t=none) (hne:(ai t 32).length=1->(ai t 32)[0]! =eX->[]∉ai t 32):fm x t=none:=by
 unfold fm;simp only[h0,aZ];split
 .rename_i e1;rw[ar];rintro⟨e2,e3⟩;have:=h1 e3;rw[H0,aC ⟨e1,.inr e2,hne e2 e1⟩]at this;cases this
 .split
  .rename_i e1;unfold AG;cases hr:qH t 4 with
   |none=>rfl
   |some p=>
    obtain⟨l,u⟩:=p;simp only;rw[ar];rintro⟨e2,e3⟩;have:=h2 e2;unfold GY at this;rw[Bh (n:=4) ae,hr]at this;obtain⟨q1,_,q3,_⟩:=Bw hr;have hl4:l.length=4:=by rw[q1,eF];omega
    simp only at this;rw[aC (by rw[q1,wF ae];exact e1)]at this;simp only at this;have hh:mi (l++[u])=true:=by unfold mi at e3⊢;rw[CP ae];exact e3
    rw[aC hh]at this;cases this
  grind [rj,qH,adw,uP,H0,yZ]
def nC {w:av}{n:Nat}{op:Bool}{ls:List av}(h:cu w n op ls=none):No (eC w n op) ls:=by
 rintro t r rfl
 grind [cu]
theorem eL {w:av}{n:Nat}{op:Bool}{ls l r:List av}(h:cu w n op ls=some (l,r)):∃t,ls=t::r/\eC w n op t=some l:=by
 match ls,h with
 |[],h=>cases h
 |t::q,h=>
  grind [cu]
def F9 (R:Rec)(N:List bo):∀(ls:List av) (A:List bX),nN ⟨{R with needs:=N++[⟨A,[],[]⟩]},2⟩ ls=nN ⟨{R with needs:=N++[⟨A++(cV ls).1,[],[]⟩]},2⟩ (cV ls).2/\No GY (cV ls).2
 |[],A=>⟨by simp[cV],fun t r h=>by simp[cV]at h⟩
 |t::r,A=>by
  have key:∀{l},eC ib 5 true t=some l->mi l=true->GY t=some l:=fun h1 h2=>by simp only[GY,h1,h2,ba]
  cases hn:eC ib 5 true t with
  |none=>
   have e:cV (t::r)=([],t::r):=by simp only[cV,hn]
   rw[e];refine⟨aI,fun t' r' h=>?_⟩;simp only[qR]at h;rw[<-h.1];simp only[GY,hn]
  |some l=>
   by_cases ho:mi l=true
   .have e:cV (t::r)=(iH l::(cV r).1,(cV r).2):=by simp only[cV,hn,ho,ba]
    rw[e];obtain⟨i1,i2⟩:=F9 R N r (A++[iH l])
    grind [jH,abJ,fQ]
   .have e:cV (t::r)=([],t::r):=by simp only[cV,hn,ho,gP,aZ]
    rw[e];refine⟨aI,fun t' r' h=>?_⟩;simp only[qR]at h;rw[<-h.1];simp only[GY,hn,ho,gP,aZ]
def Stop (s:Nat)(ls:List av):Prop:=(s=2->No GY ls/\No (eC fo 2 true) ls)/\(s=2\/s=3->No (eC dh 2 false) ls)/\(s=5->No (eC fo 2 true) ls)
def abH (R:Rec)(N:List bo)(ls:List av):∃s,(s=2\/s=3\/s=4)/\nN ⟨{R with needs:=N++[⟨[],[],[]⟩]},2⟩ ls=nN ⟨{R with needs:=N++[(eQ ls).1]},s⟩ (eQ ls).2/\Stop s (eQ ls).2:=by
 obtain⟨a1,a2⟩:=F9 R N ls [];rw[a1];unfold eQ;generalize cV ls=p at a2⊢;obtain⟨W,l1⟩:=p;simp only[fS]at a2⊢;cases hw:cu fo 2 true l1 with
 |none=>
  have ew:cI l1=([],l1):=by simp only[cI,hw]
  rw[ew];simp only;cases ho:cu dh 2 false l1 with
  |none=>
   have eo:qD l1=([],l1):=by simp only[qD,ho]
   rw[eo];exact⟨2,.inl rfl,rfl,fun _=>⟨a2,nC hw⟩,fun _=>nC ho,fun h=>ae⟩
  |some q=>
   obtain⟨l,r⟩:=q;have eo:qD l1=(l[1]!,r):=by simp only[qD,ho]
   rw[eo];obtain⟨t,rfl,ht⟩:=eL ho;refine⟨4,.inr (.inr rfl), ?_,fun h=>ae,fun h=>ae,fun h=>ae⟩;rw[jH (Ng (.inl rfl) ht),fQ]
 |some q=>
  obtain⟨l,r⟩:=q;have ew:cI l1=(l[1]!,r):=by simp only[cI,hw]
  rw[ew];simp only;obtain⟨t,rfl,ht⟩:=eL hw;rw[jH (To rfl ht),fQ];simp only;cases ho:cu dh 2 false r with
  |none=>
   have eo:qD r=([],r):=by simp only[qD,ho]
   rw[eo];exact⟨3,.inr (.inl rfl),rfl,fun h=>ae,fun _=>nC ho,fun h=>ae⟩
  |some q=>
   obtain⟨l',r'⟩:=q;have eo:qD r=(l'[1]!,r'):=by simp only[qD,ho]
   rw[eo];obtain⟨t',rfl,ht'⟩:=eL ho;refine⟨4,.inr (.inr rfl), ?_,fun h=>ae,fun h=>ae,fun h=>ae⟩;rw[jH (Ng (.inr rfl) ht'),fQ]
def Xs (R:Rec):∀(f:Nat) (ls:List av) (N:List bo) (s:Nat),ls.length<=f->1<=s->s<5->Stop s ls->
  ∃s',1<=s'/\s'<5/\nN ⟨{R with needs:=N},s⟩ ls=nN ⟨{R with needs:=N++(fj ls).1},s'⟩ (fj ls).2/\Stop s' (fj ls).2/\No (eC eX 1 false) (fj ls).2:=by
 intro f;induction f with
 |zero=>
  intro ls N s hl h1 h5 hs;have:ls=[]:=pB.1 ae;subst this;rw[qZ (by rfl)];exact⟨s,h1,h5,aI,hs,fun t r h=>by cases h⟩
 |succ f ih=>
  intro ls N s hl h1 h5 hs;cases hn:cu eX 1 false ls with
  |none=>
   rw[qZ hn];exact⟨s,h1,h5,aI,hs,nC hn⟩
  |some q=>
   obtain⟨l,r⟩:=q;rw[uL hn];have hlen:=kA hn;obtain⟨t,rfl,ht⟩:=eL hn;rw[jH (Xy (by simp only;omega) (by simpa using h5) ht)];obtain⟨s1,b1,b2,b3⟩:=abH R N r;simp only;rw[b2];have:=Bc r;obtain⟨s2,c1,c2,c3,c4,c5⟩:=ih (eQ r).2 (N++[(eQ r).1]) s1 (by simp only[aM]at hl;omega) ae ae b3;exact⟨s2,c1,c2,by rw[c3];simp,c4,c5⟩
def abF (R:Rec):∀(f:Nat) (ls:List av) (B:List fZ) (s:Nat),ls.length<=f->1<=s->s<=6->Stop s ls->(s<5->No (eC eX 1 false) ls)->
  ∃s',1<=s'/\s'<=6/\nN ⟨{R with bars:=B},s⟩ ls=nN ⟨{R with bars:=B++(jx ls).1},s'⟩ (jx ls).2/\Stop s' (jx ls).2/\(s'<5->No (eC eX 1 false) (jx ls).2)/\No (eC gG 3 true) (jx ls).2:=by
 intro f;induction f with
 |zero=>
  intro ls B s hl h1 h5 hs hnd;have:ls=[]:=pB.1 ae;subst this;rw[sM (by rfl)];exact⟨s,h1,h5,aI,hs,fun _ t r h=>by(cases h),fun t r h=>by cases h⟩
 |succ f ih=>
  intro ls B s hl h1 h5 hs hnd;cases hn:cu gG 3 true ls with
  |none=>
   rw[sM hn];exact⟨s,h1,h5,aI,hs,hnd,nC hn⟩
  |some q=>
   obtain⟨l,r⟩:=q;rw[xp hn];have hlen:=kA hn;obtain⟨t,rfl,ht⟩:=eL hn;rw[jH (abK (by simp only;omega) (by simpa using h5) ht)];have hwl:=wH r;simp only[aM]at hl;cases hw:cu fo 2 true r with
   |none=>
    have ew:cI r=([],r):=by simp only[cI,hw]
    rw[ew]at hwl⊢;simp only;obtain⟨s2,c1,c2,c3,c4,c5,c6⟩:=ih r (B++[⟨l[1]!,l[2]!,[]⟩]) 5 ae ae ae ⟨fun h=>ae,fun h=>ae,fun _=>nC hw⟩ (fun h=>ae);exact⟨s2,c1,c2,by rw[c3];simp,c4,c5,c6⟩
   |some q=>
    obtain⟨l',r'⟩:=q;have ew:cI r=(l'[1]!,r'):=by simp only[cI,hw]
    rw[ew]at hwl⊢;obtain⟨t',rfl,ht'⟩:=eL hw;rw[jH (Tp rfl ht'),fQ];simp only at hwl⊢;obtain⟨s2,c1,c2,c3,c4,c5,c6⟩:=ih r' (B++[⟨l[1]!,l[2]!,l'[1]!⟩]) 6 (by simp only[aM]at hl;omega) ae ae ⟨fun h=>ae,fun h=>ae,fun h=>ae⟩ (fun h=>ae);exact⟨s2,c1,c2,by rw[c3];simp,c4,c5,c6⟩
def Ik (R:Rec):∀(ls:List av) (F:List ct) (s:Nat),1<=s->
  ∃s',(s'=7\/(s'=s/\(dS ls).2=ls))/\nN ⟨{R with feats:=F},s⟩ ls=nN ⟨{R with feats:=F++(dS ls).1},s'⟩ (dS ls).2/\No yZ (dS ls).2
 |[],F,s,h=>⟨s,.inr ⟨rfl,rfl⟩,by simp[dS],fun t r h=>by simp[dS]at h⟩
 |t::r,F,s,h=>by
  cases hn:eC cw 0 false t with
  |none=>
   have e:dS (t::r)=([],t::r):=by simp only[dS,hn]
   rw[e];refine⟨s,.inr ⟨rfl,rfl⟩,aI,fun t' r' h=>?_⟩;simp only[qR]at h;rw[<-h.1];simp only[yZ,hn]
  |some l=>
   by_cases ho:2<=l.length
   .have e:dS (t::r)=(⟨l[1]!,l.drop 2⟩::(dS r).1,(dS r).2):=by simp only[dS,hn,ho,ba]
    rw[e];have hf:yZ t=some l:=by simp only[yZ,hn,ho,ba]
    rw[jH (Xx (by simp only;omega) hf)];obtain⟨s',i1,i2,i3⟩:=Ik R r (F++[⟨l[1]!,l.drop 2⟩]) 7 ae
    grind
   .have e:dS (t::r)=([],t::r):=by simp only[dS,hn,ho,aZ]
    rw[e];refine⟨s,.inr ⟨rfl,rfl⟩,aI,fun t' r' h=>?_⟩;simp only[qR]at h;rw[<-h.1];simp only[yZ,hn,ho,aZ]
def adu {t:av}(h1:(ai t 32).length=1)(h2:(ai t 32)[0]! =eX):[]∉ai t 32:=by
 obtain⟨a,ha⟩:=List.length_eq_one_iff.1 h1;rw[ha]at h2⊢;simp only[List.getElem!_cons_zero]at h2;subst h2;decide
def abG (nm:av)(v:dz)(ls:List av):∃s,1<=s/\nN ⟨⟨nm,v,[],[],[]⟩,1⟩ ls=(⟨(rJ nm v ls).1,s⟩,(rJ nm v ls).2):=by
 obtain⟨s1,a1,a2,a3,a4,a5⟩:=Xs ⟨nm,v,[],[],[]⟩ ls.length ls [] 1 (aH _) ae ae ⟨fun h=>ae,fun h=>ae,fun h=>ae⟩;obtain⟨s2,b1,b2,b3,b4,b5,b6⟩:=abF ⟨nm,v,(fj ls).1,[],[]⟩ (fj ls).2.length (fj ls).2 [] s1 (aH _) a1 ae a4 (fun _=>a5);obtain⟨s3,c1,c2,c3⟩:=Ik ⟨nm,v,(fj ls).1,(jx (fj ls).2).1,[]⟩ (jx (fj ls).2).2 [] s2 b1;simp only[fS]at a3 b3 c2;have hs3:1<=s3:=by rcases c1 with h|h<;>omega
 refine⟨s3,hs3, ?_⟩;rw[a3,b3,c2];unfold rJ;generalize hR:(⟨nm,v,(fj ls).1,(jx (fj ls).2).1,(dS (jx (fj ls).2).2).1⟩:Rec)=R
 match hq:(dS (jx (fj ls).2).2).2 with
 |[]=>rfl
 |t::r=>
  refine wA (ad0 (by simp only;omega) ?_ ?_ ?_ ?_ ?_ (c3 t r hq) adu);all_goals
   intro h;simp only at h;rcases c1 with h7|⟨rfl,e⟩
   .omega
   rw[e]at hq
  .exact b5 h t r hq
  .exact(b4.1 h).1 t r hq
  .rcases h with h|h
   .exact(b4.1 h).2 t r hq
   .exact b4.2.2 h t r hq
  .exact b4.2.1 h t r hq
  .exact b6 t r hq
def head_eq {t:av}:E9 (ai t 32)=(match eC ee 3 false t with
  |some l=>(match hH l[2]! with
   |some v=>some ⟨⟨l[1]!,v,[],[],[]⟩,1⟩
   |none=>none)
  |none=>none):=by
 rw[H0];unfold E9;generalize ai t 32=l;by_cases h1:l.length=3/\l[0]! =ee
 .obtain⟨a,b,c,rfl⟩:∃a b c,l=[a,b,c]:=by
   match l,h1.1 with
   |[a,b,c],_=>exact⟨a,b,c,rfl⟩
  have h2:=h1.2;simp only[List.getElem!_cons_zero]at h2;subst h2;by_cases hb:b=[]
  .subst hb;rw[ar aI,ar aI]
  .rw[aC ⟨h1,by simpa using hb⟩];by_cases hc:c=[]
   .subst hc;rw[ar aI];rfl
   .have hm:[]∉[ee,b,c]:=by
     simp only[ca,ek,or_false,not_or];exact⟨aG,fun h=>hb h.symm,fun h=>hc h.symm⟩
    rw[aC ⟨h1.2,.inr rfl,hm⟩];all_goals (cases hq:hH [ee,b,c][2]! <;>simp only[hq])
 .rw[ar (fun h=>h1 h.1),ar];rintro⟨a,b,_⟩;exact h1 ⟨by rcases b with b|b<;>omega,a⟩
def zx:j6:=⟨lh,0⟩
def aiY (t:av):fm zx t=E9 (ai t 32):=by unfold fm zx;simp
theorem Ka (ls:List av):match pA ls with
  |some (r,rest)=>∃s,1<=s/\nN zx ls=(⟨r,s⟩,rest)
  |none=>nN zx ls=(zx,ls):=by
 match ls with
 |[]=>rfl
 |t::q=>
  have hs:=aiY t;rw[head_eq]at hs;cases hn:eC ee 3 false t with
  |none=>
   grind [pA,cu,wA]
  |some l=>
   rw[hn]at hs;simp only[pA,cu,hn];cases hv:hH l[2]! with
   |none=>
    grind [wA]
   |some v=>
    simp only[hv]at hs;obtain⟨s,h1,h2⟩:=abG l[1]! v q
    grind [jH]
def wW (m:List (Nat×cr))(l:Nat)(t:List UInt8):Prop:=(∃u,look m l=some (.bld none 0 u)/\t=[])\/(∃l2 u,look m l=some (.bld (some l2) t.length u)/\look m l2=some (.row t))
@[go_sem] def il (m:List (Nat×cr))(l:Nat):List (Nat×cr):=match look m l with
 |some (.bld (some l2) _ _)=>cM m l2
 |_=>m
@[go_sem] def ue (m:List (Nat×cr))(l L:Nat)(t:List UInt8):List (Nat×cr):=(L,.row t)::ep (il m l) l (.bld (some L) t.length true)
def TrW (am7:D)(s:List UInt8)(ds:List D)(st:St)(K:D->St->Prop):Prop:=∃l t,ds=[.ptr l 2 0 0,am7]/\wW st.m l t/\l<st.nx/\s≠[]/\t.length+s.length<=1099511627776/\K .any ⟨st.nx+1,ue st.m l st.nx (t++s)⟩
def trWS (ds:List D)(st:St)(K:D->St->Prop):Prop:=∃s,TrW (.str s) s ds st K
def trWB (ds:List D)(st:St)(K:D->St->Prop):Prop:=∃c,TrW (.int .u8 c.toNat) [c] ds st K
def trBS (ds:List D)(st:St)(K:D->St->Prop):Prop:=∃l t,ds=[.ptr l 2 0 0]/\wW st.m l t/\t≠[]/\K (.str t) ⟨st.nx,cM (il st.m l) l⟩
def IV (Y:Ctx):Prop:=∀(ds:List D) (st:St) (K:D->St->Prop),trWS ds st K->Y.tr 489 ds st K
def IZ (Y:Ctx):Prop:=∀(ds:List D) (st:St) (K:D->St->Prop),trWB ds st K->Y.tr 664 ds st K
def IU (Y:Ctx):Prop:=∀(ds:List D) (st:St) (K:D->St->Prop),trBS ds st K->Y.tr 452 ds st K
def WC (b a:av)(l:List av)(h:a≠[]):aO b (a::l)≠[]:=by
 match l with
 |[]=>exact h
 |c::r=>
  rw[eK b a (c::r) aI];intro e;have:=List.append_eq_nil_iff.1 e;exact h (List.append_eq_nil_iff.1 this.1).1
def I4 (ws:List av)(t:av):Prop:=(aO [32] ws≠[]/\ws.length<=1048600)/\(∀w∈ws,w.length<=2097200)/\t.length+(aO [32] ws).length+1<=1099511627776
def I4.mk {a:av}{l:List av}{t:av}(h1:a≠[])(h2:l.length<=99)(h3:∀w∈a::l,w.length<=2097200)(h4:t.length<=1000000000):I4 (a::l) t:=by
 have h5:=nw 32 2097200 (a::l) h3;have h6:(a::l).length<=100:=by simp only[aM];omega
 have h7:=fF (2097200+1) h6;exact⟨⟨WC _ _ _ h1,ae⟩,h3,ae⟩
def IQ (Y:Ctx):Prop:=∀(ws:List av) (t:av) (l lw nx:Nat) (m:List (Nat×cr)) (K:D->St->Prop),wW m l t->look m lw=some (.buf 1 (ws.map D.str))->l<nx->lw<nx->I4 ws t->
 K (.tup []) ⟨nx+1,ue (cM m lw) l nx (t++cN ws)⟩->Y.tr 450 [.ptr l 2 0 0,.own lw 1 0 ws.length] ⟨nx,m⟩ K
def A8 {m:List (Nat×cr)}{l L:Nat}{t:List UInt8}(h:l≠L):look (ue m l L t) l=some (.bld (some L) t.length true)/\look (ue m l L t) L=some (.row t):=by
 constructor
 .simp only[ue,look,ar (fun e=>h (Eq.symm e))]
  haveI:df:={gd:=fun _=>True,le:=fun _ _ _ _ _=>trivial}
  rw[dc,aC rfl]
 .simp only[ue,look,aC]
def acI {m:List (Nat×cr)}{l L:Nat}{t:List UInt8}(h:l≠L):wW (ue m l L t) l t:=.inr ⟨L,true,A8 h⟩
end Go.Abs
