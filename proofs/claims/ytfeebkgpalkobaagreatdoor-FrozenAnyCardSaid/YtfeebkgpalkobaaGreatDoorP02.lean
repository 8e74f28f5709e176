/- A part of the proofs. -/
import Derived.Great.BuildSlice
import Derived.Laws.Cover4
import Derived.Laws.IdiomStrings
import Derived.Laws.MakeOwn
import Derived.Lib.Strings
import Derived.MapKept
import Derived.WideKeyArr
import Derived.Test.YtfeebkgpalkobaaGreatDoorP01
set_option linter.all false
set_option maxRecDepth 60000
set_option maxHeartbeats 2000000
namespace Go.Abs
section
variable [di]
section
variable {ν:List (Nat×Nat)} {x:X} {P:Program}
def nU {e:D}{k n o b at0:Nat}{ag:Bool}{ty:TypeId}{c:Nat->Value}(hk:e.cells.length=k)(hle:o+n<=k)
  (hc:∀j,j<k->x.w.cell? ⟨b,at0+j,none⟩=some (c j)/\(c j).oneCell'=true/\RD ν x (c j) (e.cells.getD j .any))
  (hn:n=P.cellsOf ty) (hn0:P.cellsOf ty≠0) (hu:(P.underlying ty).isNone=false) (hag:ag=cI P ty) (h1:ag=false->n=1):
  ∃v,(loadVar ty ⟨b,at0+o,none⟩).run P x.w=.ok v x.w/\RD ν x v (me e k n o ag):=by
 have hcut:∃v,(loadVar ty ⟨b,at0+o,none⟩).run P x.w=.ok v x.w/\RD ν x v (cut e.cells o n ag)/\(ag=true->v=.agg ((List.range n).map fun j=>c (o+j)).toArray)/\(ag=false->v=c o):=by
  cases hb:ag
  .have hn1:=h1 hb;refine⟨c o, ?_,by simp only[cut,cond_false];exact(hc o ah).2.2,bg,fun _=>rfl⟩;rw[hb]at hag;unfold loadVar;rw[Sem.run_bind,rh hu,<-hag];simp[Result.andThen,(hc o ah).1]
  .rw[hb]at hag;refine⟨.agg ((List.range n).map fun j=>c (o+j)).toArray, ?_, ?_,fun _=>rfl,bg⟩
   .unfold loadVar;rw[Sem.run_bind,rh hu,<-hag];have:=run_loadCells (P:=P) x.w ⟨b,at0+o,none⟩ n (fun j=>c (o+j)) (fun j hj=>by rw[Addr.uC,Nat.add_assoc];exact(hc (o+j) ah).1);simp[Result.andThen,dN hn0,<-hn,this]
   .simp only[cut,cond_true];refine .agg _ _ dH (fun i hi=>?_) (fun i hi=>?_)
    .simp at hi;have:=(hc (o+i) ah).2.1;simpa[Array.getD,show i<n by omega]using this
    .simp at hi;rw[ef _ _ _ _ _ ah];have:=(hc (o+i) ah).2.2;simpa[Array.getD,show i<n by omega]using this
 obtain⟨v,r1,r2,r3,r4⟩:=hcut;refine⟨v,r1, ?_⟩;unfold me;cases hb:(n==k)&&(e.isAgg==ag)
 .simpa using r2
 .simp only[br,beq_iff_eq]at hb;obtain⟨hnk,hea⟩:=hb;simp only[cond_true];have ho:o=0:=ah;subst ho;cases hb:ag
  .rw[hb]at hea;have hv:=r4 hb;have hn1:=h1 hb;have hcell:=(hc 0 ah).2.2;rw[hv];cases e<;>simp only[D.cells,D.isAgg,aX,aT]at hk hea hcell<;>first|omega|exact absurd hea bj|exact hcell
  .rw[hb]at hea;cases e<;>simp only[D.isAgg,iG]at hea;rename_i ds;rw[r3 hb];simp only[D.cells]at hk hc;refine .agg _ _ dH (fun i hi=>?_) (fun i hi=>?_)
   .have:=(hc i ah).2.1;simpa[Array.getD,show i<n by omega]using this
   .have:=(hc i ah).2.2;simpa[Array.getD,show i<n by omega]using this
end
section
variable {x:X} {f:Nat->Option bL} {C:CC} {defs:List (Option Nat)} {J:Src->bI} {ev:Operand->Value} {Y:Ctx} {m:List (Nat×bL)} {L:Nat}
def AG {t:TypeId}{z:List D}(h:nA C.P t=some (.agg z)):∃i cs,C.P.info? t=some i/\i.zero=some (.agg cs)/\RD C.ν x (.agg cs) (.agg z):=by
 unfold nA at h;cases hi:C.P.info? t with
 |none=>simp[hi]at h
 |some i=>
  cases hz:i.zero with
  |none=>simp[hi,hz]at h
  |some v=>
   simp only[hi,hz,Option.bind_some]at h;have hr:RD C.ν x v (.agg z):=k9 v _ h;cases v with
   |agg cs=>exact⟨i,cs,rfl,hz,hr⟩
   |_=>cases hr
def j5 {t:TypeId}{z:D}(h:nA C.P t=some z):∃i v,C.P.info? t=some i/\i.zero=some v/\RD C.ν x v z:=by
 unfold nA at h;cases hi:C.P.info? t with
 |none=>simp[hi]at h
 |some i=>
  cases hz:i.zero with
  |none=>simp[hi,hz]at h
  |some v=>
   grind [k9]
def uv {P:Program}(w:World):∀(fs:List Field),(∀f∈fs,(P.info? f.type).isSome=true)->
  (fs.mapM (fun f=>(do pure (f.offset,<-sizeOf f.type):Sem (Nat×Nat)))).run P w=.ok (fs.map fun f=>(f.offset,P.cellsOf f.type)) w
 |[],_=>bg
 |f::r,h=>by
  have hf:=h f bg;cases hi:P.info? f.type with
  |none=>simp[hi]at hf
  |some i=>
   have hr:=uv w r (fun g hg=>h g (by simp[hg]));simp only[List.mapM_cons,Sem.run_bind,run_sizeOf w hi,Result.andThen_ok,Sem.run_pure,hr];simp
def E6 {op:BinOp}{d e:D}(h:iu op d e):(∃k a k' b,d=.int k a/\e=.int k' b)\/(∃a b,d=.str a/\e=.str b):=by
 cases d<;>cases e<;>first|exact .inl ⟨_,_,_,_,rfl,rfl⟩|exact .inr ⟨_,_,rfl,rfl⟩|(simp only[iu]at h)
def ko {op:BinOp}{t u:TypeId}{p q:Operand}{o:Oper}{v:Value}{w:World}{P:Program}(ho:o.op=.binOp op t p q u)(hg:(eqGuard op t p q (ev p) (ev q)).run P w=.ok () w)
  (hr:(binOp op t (ev p) (ev q)).run P w=.ok v w):(execOp ev o).run P w=.ok (.value v) w:=by
 simp[execOp,ho,hg,hr]
def AP (op:BinOp)(hop:op=.eql\/op=.neq)(t:TypeId)(xs ys:Array Value)(b:Bool)(w:World)(P:Program)(h:(Op.equalIn 10000 t (.agg xs) (.agg ys)).run P w=.ok b w):
  (binOp op t (.agg xs) (.agg ys)).run P w=.ok (.bool (if op=.neq then !b else b)) w:=by
 rcases hop with rfl|rfl
 .rw[run_eql_struct,h];rfl
 .rw[run_neq_struct,h];rfl
def VE {a:Option Addr}{len cap k:Nat}{es:List D}{l h:Nat}(hv:RD C.ν x (.slice a len cap) (.sl k es))(h1:l<=h)(h2:h<=es.length):
  RD C.ν x (.slice (if cap=l then a else a.map (·.add (l*k))) (h-l) (cap-l)) (.sl k ((es.take h).drop l)):=by
 cases hv with
 |sl _ b off _ _ _ _ c hlen ha hcap hm hk hn hc hone hh=>
  have hl':((es.take h).drop l).length=h-l:=dH;have hg:∀i,i<h-l->((es.take h).drop l).getD i .any=es.getD (l+i) .any:=by
   intro i hi;simp[List.getD,List.getElem?_drop,List.getElem?_take,show l+i<h by omega]
  refine .sl _ b (off+l*k) (h-l) (cap-l) k _ (fun i j=>c (l+i) j) hl'.symm ?_ ah ah (fun i hi=>?_) (fun i hi=>?_) (fun i j hi hj=>?_) (fun i j hi hj=>hone _ _ ah hj) (fun i j hi hj=>?_)
  .grind [Addr.uC]
  .rw[hg i hi];exact hk _ ah
  .rw[hg i hi];exact hn _ ah
  .have:=hc (l+i) j ah hj;rw[<-this];congr 2;rw[Nat.add_mul];omega
  .rw[hg i hi];exact hh _ _ ah hj
def VC {a:Option Addr}{len cap k:Nat}{es:List D}{h m:Nat}(hv:RD C.ν x (.slice a len cap) (.sl k es))(h1:h<=m)(h2:m<=es.length):
  RD C.ν x (.slice (if m=0 then a else a.map (·.add (0*k))) h m) (.sl k (es.take h)):=by
 cases hv with
 |sl _ b off _ _ _ _ c hlen ha hcap hm hk hn hc hone hh=>
  have hl':(es.take h).length=h:=dH;have hg:∀i,i<h->(es.take h).getD i .any=es.getD i .any:=by
   intro i hi;simp[List.getD,List.getElem?_take,hi]
  refine .sl _ b off h m k _ (fun i j=>c i j) hl'.symm ?_ h1 ah (fun i hi=>?_) (fun i hi=>?_) (fun i j hi hj=>hc i j ah hj) (fun i j hi hj=>hone _ _ ah hj) (fun i j hi hj=>?_)
  .by_cases he:h=0
   .left;exact jM ah
   .right;rw[aj ah];rcases ha with rfl|⟨rfl,hI⟩
    .simp at h2;omega
    .exact⟨by simp[Addr.add],hI⟩
  .rw[hg i hi];exact hk _ ah
  .rw[hg i hi];exact hn _ ah
  .rw[hg i hi];exact hh _ _ ah hj
def Qz {v:Value}{L' k i n:Nat}(hv:RD C.ν x v (.own L' k i n)):
  ∃a cap,v=.slice a n cap/\n<=cap/\∀h m,h<=m->m<=n->RD C.ν x (.slice (if m=0 then a else a.map (·.add (0*k))) h m) (.own L' k i h):=by
 cases hv with
 |own _ _ _ _ b base tot cap a hβ ha hcap hm ht=>
  refine⟨some a,cap,rfl,hcap,fun h m h1 h2=>?_⟩;have e:(if m=0 then some a else(some a).map (·.add (0*k)))=some a:=by simp[Addr.add]
  rw[e];exact .own L' k i h b base tot m a hβ (fun hp=>ha ah) h1 ah ah
 |own0 _ _ _ a=>
  refine⟨a,0,rfl,aM _,fun h m h1 h2=>?_⟩;obtain rfl:m=0:=ah;obtain rfl:h=0:=ah;exact .own0 _ _ _ _
def qH {vh vm:Value}{kh km:IntKind}{h m:Int}{len cap:Nat}(e1:vh=.int kh h)(e2:vm=.int km m)(h0:0<=h)(h1:h<=m)(h2:m<=cap):
  (Instr.sliceBounds true len cap none (some vh) (some vm)).run C.P x.w=.ok (0,h.toNat,m.toNat) x.w:=by
 subst e1;subst e2;simp[Instr.sliceBounds,run_sliceBound x.w km m cap .slice3Acap ah h2,run_sliceBound x.w kh h m.toNat .slice3B h0 ah]
def QA {v:Value}{L' k i n:Nat}(hv:RD C.ν x v (.own L' k i n)):
  ∃a cap,v=.slice a n cap/\n<=cap/\∀l h,l<=h->h<=n->RD C.ν x (.slice (if cap=l then a else a.map (·.add (l*k))) (h-l) (cap-l)) (.own L' k (i+l) (h-l)):=by
 cases hv with
 |own _ _ _ _ b base tot cap a hβ ha hcap hm ht=>
  refine⟨some a,cap,rfl,hcap,fun l h h1 h2=>?_⟩;have e:(if cap=l then some a else(some a).map (·.add (l*k)))=some (if cap=l then a else a.add (l*k)):=by split<;>rfl
  rw[e];refine .own L' k (i+l) (h-l) b base tot (cap-l) _ hβ (fun hp=>?_) ah ah ah
  grind [Addr.uC]
 |own0 _ _ _ a=>
  refine⟨a,0,rfl,aM _,fun l h h1 h2=>?_⟩;obtain rfl:h=0:=ah;obtain rfl:l=0:=ah;exact .own0 _ _ _ _
def y8 (s:List UInt8)(l h:Nat):(⟨⟨s⟩⟩:ByteArray).extract l h=⟨⟨(s.take h).drop l⟩⟩:=by
 rw[Lib.extract_eq,List.drop_take]
def xN {lo:Option Operand}(h:C.opt defs lo=some none):lo=none:=by
 cases lo with
 |none=>rfl
 |some o=>simp[CC.opt]at h
def xO {lo:Option Operand}{s:Src}(h:C.opt defs lo=some (some s)):∃o,lo=some o/\C.src defs o=some s:=by
 cases lo with
 |none=>simp[CC.opt]at h
 |some o=>simp only[CC.opt,cS,aP]at h;obtain⟨a,h1,rfl⟩:=h;exact⟨o,rfl,h1⟩
def nH {os':List Operand}(hρ:pM C defs J ev x os'){lo hi:Option Operand}(hml:∀o,lo=some o->o∈os')(hmh:∀o,hi=some o->o∈os'){l h:Option Src}(hl:C.opt defs lo=some l)(hh:C.opt defs hi=some h)(k1:Kh J l)(k2:Kh J h)(xf:Bool)(len cap:Nat)
  (hcap:xf=false->len=cap) (hle:len<=cap) (b2:mS (dO J h) len) (b1:mS (dO J l) (ek (dO J h) len)):
  (Instr.sliceBounds xf len cap (lo.map ev) (hi.map ev) none).run C.P x.w=.ok (ek (dO J l) 0,ek (dO J h) len,cap) x.w/\ek (dO J l) 0<=ek (dO J h) len/\ek (dO J h) len<=len:=by
 have hh':∃code,(match hi.map ev with|some v=>Instr.sliceBound v cap code|none=>pure len:Sem Nat).run C.P x.w=.ok (ek (dO J h) len) x.w/\ek (dO J h) len<=len/\code=(if xf then BoundsCode.sliceAcap else .sliceAlen):=by
  cases h with
  |none=>
   obtain rfl:=xN hh;exact⟨_,by simp[dO,ek],by simp[dO,ek],rfl⟩
  |some s=>
   obtain⟨o,rfl,h1⟩:=xO hh;have hv:=hρ o (hmh o rfl) s  h1 k2;simp only[dO]at b2;cases hd:(J s).d<;>simp only[hd,mS]at b2;rename_i kk n;rw[hd]at hv;refine⟨_, ?_, ?_,rfl⟩
   .simp only[Option.map_some,dO,ek,hd];rw[hv.dK,run_sliceBound x.w kk n cap _ b2.1 ah]
   .simp only[dO,ek,hd];omega
 obtain⟨code,g1,g2,rfl⟩:=hh';generalize ek (dO J h) len=B at*
 have hl':(match lo.map ev with|some v=>Instr.sliceBound v B .sliceB|none=>pure 0:Sem Nat).run C.P x.w=.ok (ek (dO J l) 0) x.w/\ek (dO J l) 0<=B:=by
  cases l with
  |none=>
   obtain rfl:=xN hl;exact⟨by simp[dO,ek],by simp[dO,ek]⟩
  |some s=>
   obtain⟨o,rfl,h1⟩:=xO hl;have hv:=hρ o (hml o rfl) s  h1 k1;simp only[dO]at b1;cases hd:(J s).d<;>simp only[hd,mS]at b1;rename_i kk n;rw[hd]at hv;refine⟨?_, ?_⟩
   .simp only[Option.map_some,dO,ek,hd];rw[hv.dK,run_sliceBound x.w kk n _ _ b1.1 b1.2]
   .simp only[dO,ek,hd];omega
 obtain⟨f1,f2⟩:=hl';refine⟨?_,f2,g2⟩;cases lo with
 |none=>
  simp only[Option.map_none,Sem.run_pure,Result.ok.injEq,bW]at f1;cases hi with
  |none=>
   simp only[Option.map_none,Sem.run_pure,Result.ok.injEq,bW]at g1;rw[<-f1,<-g1];simp[Instr.sliceBounds]
  |some v=>
   simp only[Option.map_some]at g1;rw[<-f1];simp[Instr.sliceBounds,g1]
 |some u=>
  have f1':(Instr.sliceBound (ev u) B .sliceB).run C.P x.w=.ok (ek (dO J l) 0) x.w:=f1;clear f1;generalize ek (dO J l) 0=A at*
  cases hi with
  |none=>
   simp only[Option.map_none,Sem.run_pure,Result.ok.injEq,bW]at g1;subst g1;simp only[Instr.sliceBounds,Option.map_some,Option.map_none,Sem.run_bind,Sem.run_pure,Result.andThen_ok,Option.isSome_none,iG,aS,f1']
  |some v=>
   have g1':(Instr.sliceBound (ev v) cap (if xf then BoundsCode.sliceAcap else .sliceAlen)).run C.P x.w=.ok B x.w:=g1;simp only[Instr.sliceBounds,Option.map_some,Option.map_none,Sem.run_bind,Sem.run_pure,Result.andThen_ok,Option.isSome_none,iG,aS,g1',f1']
def Bg {P:Program}{t:TypeId}{ks:List CK}{d:Nat}(ha:cI P t=false)(h1:∀k,P.underlying t=some (.int k)->False)(h2:P.underlying t=some .string->False)(h:fX P (d+1) t=some ks):P.underlying t=some .bool:=by
 grind [cI,fX]
def uK {P:Program}{t:TypeId}{d:Nat}(h:P.underlying t=some .bool):fX P (d+1) t=some [.b]:=by
 unfold fX;simp[h]
def L5 {P:Program}(w:World){t:TypeId}{ps rs:Array TypeId}{vr:Bool}(h:P.underlying t=some (.func ps rs vr)):(binOp .eql t .nilFunc .nilFunc).run P w=.ok (.bool true) w/\
  ∀f a c,(binOp .eql t (.func f a c) .nilFunc).run P w=.ok (.bool false) w:=by
 have h1:∀d:Nat,(Op.equalIn (d+1) t .nilFunc .nilFunc).run P w=.ok true w:=fun d=>by simp[Op.equalIn,run_underlying h]
 have h2:∀(d:Nat) f a c,(Op.equalIn (d+1) t (.func f a c) .nilFunc).run P w=.ok false w:=fun d f a c=>by simp[Op.equalIn,run_underlying h]
 constructor
 .simp only[binOp];simp[Op.equal,Op.maxDepth,h1 9999]
 .intro f a c;simp only[binOp];simp[Op.equal,Op.maxDepth,h2 9999]
def Cj (ν:List (Nat×Nat))(x:X)(d:D)(r:Result Next):Prop:=∃v,(r=.ok (.value v) x.w\/r=.ok .skip x.w/\v=undef)/\RD ν x v d
def eQ {ν:List (Nat×Nat)}{d:D}{v:Value}{r:Result Next}(hr:r=.ok (.value v) x.w)(hd:RD ν x v d):Cj ν x d r:=⟨v,.inl hr,hd⟩
def Cj.did {ν:List (Nat×Nat)}{d:D}{r:Result Next}(h:Cj ν x d r)(hs:eK ν x f):uB ν x f L d r:=by
 obtain⟨v,h1,h2⟩:=h;exact⟨v,x,h1,.refl x,h2,hs,fun _ _=>rfl⟩
def CY {P:Program}{ν:List (Nat×Nat)}{t:TypeId}{n:Nat}(h:ifN P ν t=some n):dp ν (1000000000+t)=some (500000+n)/\∃d,P.underlying t=some d/\∀ms,d≠.interface ms:=by
 unfold ifN at h;split at h
 .cases h
 .cases h
 .rename_i d hd hu;split at h
  .rename_i q hq;split at h
   .obtain rfl:=bd h;exact⟨hq.trans (aC some ah),d,hu,fun ms e=>hd ms e⟩
   .cases h
  .cases h
def CB:∀{v:Value},de v=some (.fn 4600000 [])->v=.nilIface
 | .nilIface,_=>rfl
 | .bool b,h=>by simp[de]at h
 | .int k n,h=>by simp[de]at h
 | .string ⟨⟨s⟩⟩,h=>by simp only[de]at h;split at h<;>simp at h
 | .pointer none,h=>by simp[de]at h
 | .slice none 0 0,h=>by simp[de]at h
 | .nilFunc,h=>by simp[de]at h
 | .agg ⟨cs⟩,h=>by simp only[de]at h;split at h<;>simp at h
 | .float _ _,h=>by simp[de]at h
 | .complex _ _ _,h=>by simp[de]at h
 | .pointer (some _),h=>by simp[de]at h
 | .slice (some _) _ _,h=>by simp[de]at h
 | .slice none (_+1) _,h=>by simp[de]at h
 | .slice none 0 (_+1),h=>by simp[de]at h
 | .map none,h=>by simp[de]at h
 | .map (some _),h=>by simp[de]at h
 | .chan _,h=>by simp[de]at h
 | .func _ _ _,h=>by simp[de]at h
 | .iface _ _,h=>by simp[de]at h
 | .tuple _,h=>by simp[de]at h
def mR:∀{l:List (Nat×Nat)}{k q:Nat},dp l k=some q->(k,q)∈l
 |[],_,_,h=>by cases h
 |(a,b)::r,k,q,h=>by
  simp only[dp]at h;split at h
  .rename_i e;subst e;obtain rfl:=bd h;exact .head _
  .exact .tail _ (mR h)
def L6 {P:Program}(w:World){t:TypeId}{ms:Array (String×TypeId)}(h:P.underlying t=some (.interface ms)):(binOp .eql t .nilIface .nilIface).run P w=.ok (.bool true) w/\
  ∀u v,(binOp .eql t (.iface u v) .nilIface).run P w=.ok (.bool false) w:=by
 have h1:∀d:Nat,(Op.equalIn (d+1) t .nilIface .nilIface).run P w=.ok true w:=fun d=>by simp[Op.equalIn,run_underlying h]
 have h2:∀(d:Nat) u v,(Op.equalIn (d+1) t (.iface u v) .nilIface).run P w=.ok false w:=fun d u v=>by simp[Op.equalIn,run_underlying h]
 constructor
 .simp only[binOp];simp[Op.equal,Op.maxDepth,h1 9999]
 .intro u v;simp only[binOp];simp[Op.equal,Op.maxDepth,h2 9999]
def Gt {P:Program}(w:World){xt t:TypeId}{d:TypeDesc}(hu:P.underlying t=some d)(hd:∀ms,d≠.interface ms){ti:TypeInfo}{z:Value}(hi:P.info? t=some ti)(hz:ti.zero=some z):
  (Instr.typeAssert .nilIface xt t true).run P w=.ok (.tuple #[z,.bool false]) w/\∀u v,(Instr.typeAssert (.iface u v) xt t true).run P w=.ok (if u=t then .tuple #[v,.bool true]else .tuple #[z,.bool false]) w:=by
 constructor
 .cases d<;>first
   |exact absurd rfl (hd _)
   |simp[Instr.typeAssert,run_underlying hu,zeroValue,run_typeInfo w hi,hz]
 .intro u v;cases d<;>first
   |exact absurd rfl (hd _)
   |(simp only[Instr.typeAssert,Sem.run_bind,run_underlying hu,Result.andThen_ok];split<;>simp[zeroValue,run_typeInfo w hi,hz])
def Hl {ν:List (Nat×Nat)}{x:X}(s:List UInt8):∀(es:List MapEntry) (ds:List D) (i:Nat),UE ds->2*es.length=ds.length->(∀j,j<ds.length->RD ν x (Bp es j) (ds.getD j .any))->
  ∃r,Instr.findNow .string (.string ⟨⟨s⟩⟩) es i=some r/\((∃j v,r=some (j,v)/\RD ν x v (MZ s ds))\/(r=none/\MZ s ds=.nilf))
 |[],[],_,_,_,_=>⟨none,rfl,.inr ⟨rfl,rfl⟩⟩
 |e::es,.str a::f::r,i,ho,hl,h=>by
  have h0:=h 0 bg;have h1:=h 1 bg;simp only[Bp,gB,List.getD_cons_succ,Nat.zero_div,List.getElem?_cons_zero]at h0 h1;have hk:e.key=.string ⟨⟨a⟩⟩:=by
   have h2:RD ν x e.key (.str a):=h0;exact h2.ic.1
  have h1':RD ν x e.val f:=h1;simp only[Instr.findNow,hk,Instr.sameNow,MZ];by_cases ha:a=s
  .subst ha;rw[((MapKept.bytes_beq _ _).2 rfl:((⟨⟨a⟩⟩:ByteArray)==⟨⟨a⟩⟩)=true),beq_self_eq_true,cond_true];exact⟨_,rfl,.inl ⟨_,_,rfl,h1'⟩⟩
  .have e1:((⟨⟨s⟩⟩:ByteArray)==⟨⟨a⟩⟩)=false:=by
    cases hb:((⟨⟨s⟩⟩:ByteArray)==⟨⟨a⟩⟩)with
    |false=>rfl
    |true=>
     have hh:=(MapKept.bytes_beq _ _).1 hb;injection hh with hh
     injection hh with hh
     exact absurd hh.symm ha
   have e2:(a==s)=false:=beq_eq_false_iff_ne.2 ha;rw[e1,e2];simp only[cond_false];refine Hl s es r (i+1) ho (by simp only[aT]at hl;omega) fun j hj=>?_
   have:=h (j+2) (by simp only[aT];omega);have e3:Bp (e::es) (j+2)=Bp es j:=by
    unfold Bp;rw[show(j+2) /2=j/2+1 by omega,List.getElem?_cons_succ,show(j+2)%2=j%2 by omega]
   rw[e3]at this;simpa using this
 |_::_,[],_,_,hl,_=>by simp at hl
 |[],_::_,_,_,hl,_=>by simp at hl
 |_::es,[_],_,ho,hl,_=>by simp at hl;omega
def Dr {o:Oper}{i:aG}(hgz:∀g,C.cr.contains (500000000+g)=true/\g<400000000->di.gz g)(hcst:∀d,J (.c d)=⟨true,d⟩)(hsm:∀fid n,dp C.ν fid=some n->n<1000000)(hc:C.op defs o=some i)(hp:i.pure=true)(hρ:pM C defs J ev x o.op.operands.toList)(hob:i.dE Y J m)(hs:eK C.ν x f)(hgl:∀g,ev (.global g)=.pointer (some ⟨g,0,none⟩)):
  Cj C.ν x (i.val Y J m L) ((execOp ev o).run C.P x.w):=by
 cases ho:o.op with
 |move p=>
  simp only[CC.op,ho,cS]at hc;obtain⟨s,h1,rfl⟩:=hc;exact eQ (by simp[execOp,ho]) (hρ p (by simp[ho,Op.operands,Call.operands]) s h1 hob)
 |assign p=>
  simp only[CC.op,ho,cS]at hc;obtain⟨s,h1,rfl⟩:=hc;exact eQ (by simp[execOp,ho]) (hρ p (by simp[ho,Op.operands,Call.operands]) s h1 hob)
 |pick c a b=>
  simp only[CC.op,ho]at hc;split at hc
  .rename_i c' a' b' h1 h2 h3;simp only[aP]at hc;subst hc;obtain⟨k1,k2⟩:=hob;have hcv:=hρ c (by simp[ho,Op.operands,Call.operands]) c' h1 k1;cases hd:(J c').d<;>simp only[hd]at k2;rename_i t;rw[hd]at hcv;simp only[aG.val,hd];refine eQ ?_ (RD.pick (fun ht=>hρ a (by simp[ho,Op.operands,Call.operands]) a' h2 (k2.1 ht)) (fun ht=>hρ b (by simp[ho,Op.operands,Call.operands]) b' h3 (k2.2 ht)));simp[execOp,ho,hcv.iW,asBool]
  .cases hc
 |build t ps=>
  simp only[CC.op,ho]at hc;split at hc
  .rename_i z fs hz hu;split at hc;rotate_left
   .cases hc
   rename_i hplaces;simp only[cS]at hc;obtain⟨ss,h1,rfl⟩:=hc;obtain⟨ti,cs,hi,hzv,hr⟩:=AG (x:=x) hz;have hsz:cs.size=z.length:=by cases hr with|agg _ _ hl _ _=>exact hl
   obtain⟨cs',g1,g2⟩:=py hρ _ z.length ps.toList ss (fun p hp=>by simp only[ho,Op.operands,fF];exact⟨p,hp,rfl⟩) h1 hob cs z hsz hr;refine eQ ?_ g2;have hpl:=uv (P:=C.P) x.w fs.toList (fun f hf=>(List.all_eq_true.1 hplaces) f hf);have hpl':(fs.mapM (fun f:Field=>(do pure (f.offset,<-sizeOf f.type):Sem (Nat×Nat)))).run C.P x.w=.ok (fs.map fun f:Field=>(f.offset,C.P.cellsOf f.type)) x.w:=by
    rw[Array.mapM_eq_mapM_toList,Sem.run_map,hpl];simp[Result.andThen,List.map_toArray];apply Array.ext';simp
   have hg:Instr.fill (fun i:Nat=>(fs.map fun f:Field=>(f.offset,C.P.cellsOf f.type))[i]?) cs (ps.map fun(i,o)=>(i,ev o)).toList=some cs':=by
    have e:(fun i:Nat=>(fs.map fun f:Field=>(f.offset,C.P.cellsOf f.type))[i]?)=(fun i=>(fs[i]?).map fun f:Field=>(f.offset,C.P.cellsOf f.type)):=by
     funext q;simp
    rw[e,Array.toList_map];exact g1
   simp only[execOp,ho,Instr.build,Sem.run_bind,zeroValue,run_typeInfo x.w hi,Result.andThen_ok,hzv,Sem.run_pure,run_underlying hu,hpl',Value.cells,hg]
  .rename_i z n e hz hu;split at hc
   .cases hc
   rename_i hce;simp only[cS]at hc;obtain⟨ss,h1,rfl⟩:=hc;obtain⟨ti,cs,hi,hzv,hr⟩:=AG (x:=x) hz;have hsz:cs.size=z.length:=by cases hr with|agg _ _ hl _ _=>exact hl
   obtain⟨cs',g1,g2⟩:=py hρ _ z.length ps.toList ss (fun p hp=>by simp only[ho,Op.operands,fF];exact⟨p,hp,rfl⟩) h1 hob cs z hsz hr;refine eQ ?_ g2;have hg:Instr.fill (fun i=>some (i*C.P.cellsOf e,C.P.cellsOf e)) cs (ps.map fun(i,o)=>(i,ev o)).toList=some cs':=by
    rw[Array.toList_map];exact g1
   simp only[execOp,ho,Instr.build,Sem.run_bind,zeroValue,run_typeInfo x.w hi,Result.andThen_ok,hzv,Sem.run_pure,run_underlying hu,dN hce,Value.cells,hg]
  .cases hc
 |nilCheck p=>
  simp only[CC.op,ho,cS]at hc;obtain⟨s,h1,rfl⟩:=hc;obtain⟨k1,k2⟩:=hob;have hv:=hρ p (by simp[ho,Op.operands,Call.operands]) s h1 k1;refine eQ ?_ hv;cases hd:(J s).d<;>simp only[hd]at k2<;>rw[hd]at hv<;>generalize he:ev p=vp at hv<;>cases hv<;>simp[execOp,ho,he]
 |binOp op t p q u=>
  simp only[CC.op,ho]at hc;split at hc
  .rename_i a b h1 h2;have hbin:∀(i':aG),i'=.bin op a b->i'.dE Y J m->Cj C.ν x (i'.val Y J m L) ((execOp ev o).run C.P x.w):=by
    rintro _ rfl ⟨k1,k2,k3⟩;have hv:=hρ p (by simp[ho,Op.operands,Call.operands]) a h1 k1;have hw:=hρ q (by simp[ho,Op.operands,Call.operands]) b h2 k2;rcases E6 k3 with⟨kk,n,kk',n',e1,e2⟩|⟨s,s',e1,e2⟩
    .rw[e1]at hv k3;rw[e2]at hw k3;obtain⟨v,r1,r2⟩:=Eh (ν:=C.ν) (x:=x) (P:=C.P) (t:=t) x.w k3;refine eQ (ko ho (kn _ _ _ _ (by rw[hv.dK];exact⟨bg,bg⟩) _) (by rw[hv.dK,hw.dK];exact r1)) ?_;simp only[aG.val,e1,e2];exact r2
    .rw[e1]at hv k3;rw[e2]at hw k3;obtain⟨v,r1,r2⟩:=Ei (ν:=C.ν) (x:=x) (P:=C.P) (t:=t) x.w k3;refine eQ (ko ho (kn _ _ _ _ (by rw[hv.ic.1];exact⟨bg,bg⟩) _) (by rw[hv.ic.1,hw.ic.1];exact r1)) ?_;simp only[aG.val,e1,e2];exact r2
   split at hc
   .simp only[aP]at hc;exact hc▸hbin _ rfl (hc▸hob)
   .simp only[aP]at hc;exact hc▸hbin _ rfl (hc▸hob)
   .rename_i ms hu;split at hc
    .rename_i hb;simp only[aP]at hc;subst hc;obtain⟨k1,k2⟩:=hob;have hv:=hρ p (by simp[ho,Op.operands,Call.operands]) a h1 k1;have hq:q=.const .nilIface:=by
      cases q with
      |const v=>
       simp only[CC.src,cS,Src.c.injEq]at h2;obtain⟨d,h3,rfl⟩:=h2;rw[CB h3]
      |func f=>
       simp only[CC.src,cS,Src.c.injEq,D.fn.injEq]at h2;obtain⟨n,h3,rfl,_⟩:=h2;exact absurd (hsm _ _ h3) ah
      |tmp t=>simp only[CC.src]at h2;split at h2<;>simp at h2
      |global g=>simp[CC.src]at h2
     have hev:ev q=.nilIface:=by
      have:=hρ q (by simp[ho,Op.operands,Call.operands]) _ h2 (by rw[hcst]);rw[hcst]at this;generalize ev q=vq at this;cases this with
      |ifn=>rfl
      |fn _ _ _ _ hν=>exact absurd (hsm _ _ hν) ah
      |ek _ _ _ _ hν=>exact absurd (hsm _ _ hν) ah
      |ifc=>exfalso;omega
     subst hq;cases hd:(J a).d<;>simp only[hd]at k2<;>rw[hd]at hv<;>generalize hep:ev p=vp at hv<;>cases hv<;>simp only[aG.val,hd]
     case fn.fn=>rename_i hν _ _;exact absurd (hsm _ _ hν) ah
     case fn.ek=>rename_i hν _ _;exact absurd (hsm _ _ hν) ah
     case fn.ifc t' n' v' hν hn hl hh=>
      rw[show(n'+4000000==4600000)=false from beq_eq_false_iff_ne.2 ah];exact eQ (ko ho (by rw[hep,hev];simp[eqGuard]) (by rw[hep,hev];exact(L6 x.w hu).2 _ _)) (.bool _)
     case fn.ifn=>
      rw[beq_self_eq_true];exact eQ (ko ho (by rw[hep,hev];simp[eqGuard]) (by rw[hep,hev];exact(L6 x.w hu).1)) (.bool _)
     all_goals (exfalso;omega)
    .cases hc
   .rename_i hu1 hu2 hu3;split at hc
    .cases hc
    .rename_i hge;have hge':C.P.eqGuardType C.P.depth t=false:=by simpa using hge
     have heq:∀(neg:Bool) (ks:List CK),fX C.P 30 t=some ks->op=(if neg then .neq else .eql)->i=.eqA neg (cI C.P t) ks a b->Cj C.ν x (i.val Y J m L) ((execOp ev o).run C.P x.w):=by
      rintro neg ks hks hop rfl;obtain⟨k1,k2,a1,a2,f1,f2⟩:=hob;have hv:=hρ p (by simp[ho,Op.operands,Call.operands]) a h1 k1;have hw:=hρ q (by simp[ho,Op.operands,Call.operands]) b h2 k2;have hrun:=oX (ν:=C.ν) (x:=x) (P:=C.P) 30 t ks hks 10000 ah (ev p) (ev q) _ _ x.w hv hw a1 a2 f1 f2;cases hag:cI C.P t
      .rw[hag]at a1 a2

       have hub:C.P.underlying t=some .bool:=Bg (d:=29) hag hu1 hu2 hks;rw[uK (d:=29) hub,aP]at hks;subst hks;have g1:=ku f1 a1;have g2:=ku f2 a2;cases e1:(J a).d<;>simp only[e1,CK.fits]at g1;cases e2:(J b).d<;>simp only[e2,CK.fits]at g2;rename_i b1 b2;rw[e1]at hv;rw[e2]at hw;refine eQ (v:=.bool (if neg then !(b1==b2)else b1==b2)) (ko ho (kn _ _ _ _ (by rw[hv.iW];exact⟨bg,bg⟩) _) ?_) ?_
       .rw[hv.iW,hw.iW,hop];cases neg
        .simpa using run_eql_bool x.w t b1 b2 hub
        .simpa using run_neq_bool x.w t b1 b2 hub
       .simp only[aG.val,e1,e2,D.cells,iw,T9,fh];cases neg<;>exact .bool _
      .rw[hag]at a1 a2;cases e1:(J a).d<;>simp only[e1,D.isAgg,iG]at a1;cases e2:(J b).d<;>simp only[e2,D.isAgg,iG]at a2;rw[e1]at hv;rw[e2]at hw;rw[e1,e2]at hrun;generalize hep:ev p=vp at*
       generalize heq':ev q=vq at*
       cases hv with
       |agg xs _ p1 p2 p3=>
        cases hw with
        |agg ys _ q1 q2 q3=>
         refine eQ (ko (v:=.bool (if op=.neq then !(iw (D.agg _).cells (D.agg _).cells)else iw (D.agg _).cells (D.agg _).cells)) ho (by rw[hep,heq'];exact run_eqGuard_agg x.w _ _ _ _ _ _ hge') (by rw[hep,heq'];exact AP op (by cases neg<;>simp[hop]) t xs ys _ x.w C.P hrun)) ?_;simp only[aG.val,e1,e2];cases neg<;>simp only[hop,aY,aS,iG,cond_true,cond_false,reduceCtorEq]<;>exact .bool _
     split at hc
     .rename_i ks hks;simp only[aP]at hc;exact heq false ks hks rfl hc.symm
     .rename_i ks hks;simp only[aP]at hc;exact heq true ks hks rfl hc.symm
     .split at hc
      .rename_i hf;simp only[aP]at hc;subst hc;obtain⟨k1,k2⟩:=hob;have hv:=hρ p (by simp[ho,Op.operands,Call.operands]) a h1 k1;have hq:ev q=.nilFunc:=by
        have:=hρ q (by simp[ho,Op.operands,Call.operands]) (.c .nilf) h2 (by rw[hcst]);rw[hcst]at this;generalize ev q=vq at this;cases this;rfl
       cases hd:(J a).d<;>simp only[hd]at k2<;>rw[hd]at hv<;>generalize hep:ev p=vp at hv<;>cases hv<;>simp only[aG.val,hd];all_goals first
        |exact eQ (ko ho (kn _ _ _ _ (by rw[hep];exact⟨bg,bg⟩) _) (by rw[hep,hq];first|exact(L5 _ hf).1|exact(L5 _ hf).2 _ _ _)) (.bool _)
        |(exfalso;omega)
      .simp only[aP]at hc;subst hc;simp[aG.pure]at hp
      .cases hc
     .split at hc
      .simp only[aP]at hc;subst hc;simp[aG.pure]at hp
      .cases hc
     .cases hc
  .cases hc
 |makeInterface t p=>
  simp only[CC.op,ho]at hc;split at hc
  .rename_i s n h1 h2;simp only[aP]at hc;subst hc;obtain⟨a1,d,hu,hd⟩:=CY h2;have hv:=hρ p (by simp[ho,Op.operands,Call.operands]) s h1 hob;refine eQ (v:=.iface t (ev p)) ?_ (.ifc t n (ev p) [(J s).d] a1 ?_ rfl fun i hi=>by simp at hi;subst hi;exact hv)
   .cases d<;>first
     |exact absurd rfl (hd _)
     |simp[execOp,ho,Instr.makeInterface,run_underlying hu]
   .have:=hsm _ _ a1;omega
  .cases hc
 |typeAssert p xt t ok=>
  cases ok with
  |false=>simp[CC.op,ho]at hc
  |true=>
   simp only[CC.op,ho]at hc;split at hc
   .rename_i s n z h1 h2 hz;split at hc
    .rename_i hall;obtain⟨hn,hall⟩:=hall;simp only[aP]at hc;subst hc;obtain⟨a1,d,hu,hd⟩:=CY h2;obtain⟨ti,zv,hi,hzv,hr⟩:=j5 (x:=x) hz;obtain⟨r1,r2⟩:=Gt x.w (xt:=xt) hu hd hi hzv;obtain⟨k1,k2⟩:=hob;have hv:=hρ p (by simp[ho,Op.operands,Call.operands]) s h1 k1;have htup:∀{a b:Value} {da db:D},RD C.ν x a da->RD C.ν x b db->RD C.ν x (.tuple #[a,b]) (.tup [da,db]):=fun ha hb=>.tup _ _ rfl fun i hi=>by
      match i,hi with
      |0,_=>exact ha
      |1,_=>exact hb
     cases hdd:(J s).d<;>simp only[hdd]at k2;rw[hdd]at hv;generalize hep:ev p=vp at hv;cases hv
     case fn=>rename_i hν _ _;exact absurd (hsm _ _ hν) ah
     case ek=>rename_i hν _ _;exact absurd (hsm _ _ hν) ah
     case ifn=>
      simp only[aG.val,hdd,show(4600000==n+4000000)=false from beq_eq_false_iff_ne.2 ah,cond_false];exact eQ (by simp[execOp,ho,hep,r1]) (htup hr (.bool _))
     case ifc cs t' n' v' hν hn' hl hh=>
      by_cases e:t'=t
      .subst e;rw[a1]at hν;obtain rfl:n'=n:=by have:=bd hν;omega
       simp only[aG.val,hdd,beq_self_eq_true,cond_true];exact eQ (by simp[execOp,ho,hep,r2]) (htup (hh 0 ah) (.bool _))
      .have hne:¬n'=n:=by
        rintro rfl;have:=List.all_eq_true.1 hall _ (mR hν);simp at this;exact e ah
       simp only[aG.val,hdd,show(n'+4000000==n+4000000)=false from beq_eq_false_iff_ne.2 ah,cond_false];exact eQ (by simp[execOp,ho,hep,r2,e]) (htup hr (.bool _))
     all_goals (exfalso;omega)
    .cases hc
   .cases hc
 |store t p q=>
  simp only[CC.op,ho]at hc;split at hc
  .rename_i a b h1 h2;split at hc
   .rename_i hz;split at hc
    .rename_i hi;simp only[aP]at hc;subst hc;obtain⟨ti,hi⟩:=Option.isSome_iff_exists.1 hi;obtain⟨k1,k2,k3⟩:=hob;have hv:=hρ p (by simp[ho,Op.operands,Call.operands]) a h1 k1;have hw:=hρ q (by simp[ho,Op.operands,Call.operands]) b h2 k2;cases hd:(J a).d<;>simp only[hd]at k3;cases hd2:(J b).d<;>simp only[hd2]at k3;rename_i k cs ds;cases ds with
     |cons=>exact k3.elim
     |nil=>
      simp only at k3;subst k3;rw[hd]at hv;rw[hd2]at hw;generalize hep:ev p=vp at hv;generalize heq:ev q=vq at hw;cases hw with
      |agg xs _ hl _ _=>
       obtain rfl:xs=#[]:=by apply Array.ext';simpa using hl
       cases hv
       case fn=>rename_i hν _ _;exact absurd (hsm _ _ hν) ah
       case ek=>rename_i hν _ _;exact absurd (hsm _ _ hν) ah
       case zp ad=>
        refine⟨undef,.inr ⟨?_,rfl⟩,.any _⟩;have hsz:ti.size=0:=by simpa[Program.cellsOf,hi]using hz
        simp[execOp,ho,hep,heq,Instr.storeAt,Instr.sureAddr,storeVar,sizeOf,run_typeInfo x.w hi,hsz,Value.cells,storeCells]
       case ifc=>exfalso;omega
    .cases hc
   .simp only[aP]at hc;subst hc;simp[aG.pure]at hp
  .cases hc
 |unOp op t p=>
  simp only[CC.op,ho,cS]at hc;obtain⟨s,h1,rfl⟩:=hc;obtain⟨k1,k2⟩:=hob;have hv:=hρ p (by simp[ho,Op.operands,Call.operands]) s h1 k1;cases op<;>cases hd:(J s).d<;>simp only[hd]at k2<;>rw[hd]at hv<;>simp only[aG.val,hd]
  .exact eQ (by simp[execOp,ho,hv.dK,Op.unary,Op.intArith]) (.int _ _)
  .exact eQ (by simp[execOp,ho,hv.iW,Op.unary]) (.bool _)
 |convert s d p=>
  simp only[CC.op,ho]at hc;split at hc
  .rename_i ks k a hu1 hu2 h1;simp only[aP]at hc;subst hc;obtain⟨k1,k2⟩:=hob;have hv:=hρ p (by simp[ho,Op.operands,Call.operands]) a h1 k1;cases hd:(J a).d<;>simp only[hd]at k2;rw[hd]at hv;simp only[aG.val,hd];exact eQ (by simp[execOp,ho,hv.dK,convert,run_underlying hu1,run_underlying hu2,Conv.intToInt]) (.int _ _)
  .rename_i ks a hu1 hu2 h1;simp only[aP]at hc;subst hc;obtain⟨k1,k2⟩:=hob;have hv:=hρ p (by simp[ho,Op.operands,Call.operands]) a h1 k1;cases hd:(J a).d<;>simp only[hd]at k2;rename_i n;rw[hd]at hv;simp only[aG.val,hd];refine eQ (v:=.string (Utf8.encode n)) (by simp[execOp,ho,hv.dK,convert,run_underlying hu1,run_underlying hu2,Conv.intToString]) ?_;have h4:=encode_size_le n;have e:Utf8.encode n=⟨⟨Of n⟩⟩:=rfl;rw[e];refine .str _ ?_;have:(Of n).length=(Utf8.encode n).size:=rfl;simp only[maxLen];omega
  .split at hc
   .simp only[aP]at hc;subst hc;simp[aG.pure]at hp
   .cases hc
  .split at hc
   .simp only[aP]at hc;subst hc;simp[aG.pure]at hp
   .cases hc
  .cases hc
 |makeFunc fn first caps=>
  cases fn with
  |func fid=>
   simp only[CC.op,ho]at hc;split at hc
   .rename_i n l h1 h2;split at hc
    .rename_i hfe;simp only[aP]at hc;subst hc;obtain⟨e1,e2,e3⟩:=gM hρ caps.toList l (fun o' ho'=>by simp only[ho,Op.operands,Array.toList_append,List.mem_append];exact .inr ho') h2 hob;have hf0:first=#[]:=by simpa using hfe
     refine eQ (v:=.func (.func fid) #[] (caps.map ev)) (by simp[execOp,ho,Instr.makeFunc,hf0]) ?_;refine .fn fid n _ _ h1 (by simp[e2]) (fun i hi=>?_);have:=e3 i hi;rw[<-cB,Array.toList_map];exact this
    .split at hc
     .rename_i hle;simp only[cS]at hc;obtain⟨l1,hl1,rfl⟩:=hc;obtain⟨e1,e2,e3⟩:=gM hρ first.toList l1 (fun o' ho'=>by simp only[ho,Op.operands,Array.toList_append,List.mem_append];exact .inl ho') hl1 hob
      obtain⟨_,q2,_⟩:=gM hρ caps.toList l (fun o' ho'=>by simp only[ho,Op.operands,Array.toList_append,List.mem_append];exact .inr ho') h2 (by rw[List.isEmpty_iff.1 hle];trivial);have hf0:caps=#[]:=by
       rw[List.isEmpty_iff.1 hle]at q2;exact Array.eq_empty_of_size_eq_zero (by simpa[gV]using q2.symm)
      refine eQ (v:=.func (.func fid) (first.map ev) #[]) (by simp[execOp,ho,Instr.makeFunc,hf0]) ?_;refine .ek fid n _ _ h1 (by simp[e2]) (fun i hi=>?_);have:=e3 i hi;rw[<-cB,Array.toList_map];exact this
     .cases hc
   .cases hc
  |_=>simp[CC.op,ho]at hc
 |lookup t p q ok=>
  cases ok with
  |true=>simp only[CC.op,ho]at hc;(repeat' split at hc)<;>simp_all[aG.pure]<;>(subst hc;simp_all[aG.pure])
  |false=>
   simp only[CC.op,ho]at hc;split at hc
   .rename_i a b kt et h1 h2 hu;split at hc
    .rename_i hk hz;simp only[aP]at hc;subst hc;obtain⟨k1,k2,k3⟩:=hob;have hv:=hρ p (by simp[ho,Op.operands,Call.operands]) a h1 k1;have hw:=hρ q (by simp[ho,Op.operands,Call.operands]) b h2 k2;cases hd:(J a).d<;>simp only[hd]at k3;cases hd2:(J b).d<;>simp only[hd2]at k3;obtain⟨hq2,k4⟩:=k3;rename_i es s;rw[hd]at hv;rw[hd2]at hw;obtain⟨e1,e2⟩:=hw.ic;simp only[aG.val,hd,hd2];generalize hep:ev p=vp at hv;cases hv with
     |fn _ _ _ _ hν=>exact absurd (hsm _ _ hν) ah
     |ek _ _ _ _ hν=>exact absurd (hsm _ _ hν) ah
     |bx=>exfalso;omega
     |ifc=>exfalso;omega
     |ifn=>exfalso;omega
     |mpn=>exfalso;omega
     |zp=>exfalso;omega
     |im=>exfalso;omega
     |mp r' ents cl _ hI hh hl h=>
      obtain⟨r,f1,f2⟩:=Hl (ν:=C.ν) (x:=x) s ents.toList es 0 k4 (by simpa using hl) h;obtain⟨ti,zv,hi,hzv,hr⟩:=j5 (x:=x) hz;rcases f2 with⟨j,v,rfl,f3⟩|⟨rfl,f3⟩
      .refine eQ (v:=v) ?_ f3;simp[execOp,ho,hep,e1,Instr.lookup,run_underlying hu,MapKept.run_getObj_map hh,MapKept.run_checkKey hk (show MapKept.IsKey .string (.string ⟨⟨s⟩⟩)from trivial),MapKept.run_findKey hk f1,Result.andThen]
      .rw[f3];refine eQ (v:=zv) ?_ hr;simp[execOp,ho,hep,e1,Instr.lookup,run_underlying hu,MapKept.run_getObj_map hh,MapKept.run_checkKey hk (show MapKept.IsKey .string (.string ⟨⟨s⟩⟩)from trivial),MapKept.run_findKey hk f1,Result.andThen,zeroValue,run_typeInfo x.w hi,hzv]
    .cases hc
   .cases hc
 |slice t p lo hi mx=>
  simp only[CC.op,ho]at hc;split at hc
  .rename_i a l h hu h1 hl hh;simp only[aP]at hc;subst hc;obtain⟨k1,k2,k3,k4⟩:=hob;have hv:=hρ p (by simp[ho,Op.operands,Call.operands]) a h1 k1;cases hd:(J a).d<;>simp only[hd]at k4;rename_i s;rw[hd]at hv;obtain⟨e1,e2⟩:=hv.ic;obtain⟨b1,b2,b3⟩:=nH hρ (by rintro _ rfl;simp[ho,Op.operands]) (by rintro _ rfl;simp[ho,Op.operands]) hl hh k2 k3 false s.length s.length (fun _=>rfl) (aM _) k4.1 k4.2;simp only[aG.val,hd];have hsz:(⟨⟨s⟩⟩:ByteArray).size=s.length:=rfl;refine eQ (v:=.string ⟨⟨(s.take (ek (dO J h) s.length)).drop (ek (dO J l) 0)⟩⟩) ?_ (.str _ dH);simp[execOp,ho,e1,Instr.sliceAt,Instr.slice,run_underlying hu,hsz,b1,y8]
  .rename_i e a l h hu h1 hl hh;split at hc
   .cases hc
   rename_i hce;simp only[aP]at hc;subst hc;obtain⟨k1,k2,k3,k4⟩:=hob;have hv:=hρ p (by simp[ho,Op.operands,Call.operands]) a h1 k1;cases hd:(J a).d<;>simp only[hd]at k4
   ·
    rw[hd]at hv;obtain⟨b1,b2,b3⟩:=nH hρ (by rintro _ rfl;simp[ho,Op.operands]) (by rintro _ rfl;simp[ho,Op.operands]) hl hh k2 k3 true 0 0 (fun e=>by simp at e) (aM _) k4.1 (by
     have:ek (dO J h) 0=0:=by
      have:=k4.1;cases hdh:dO J h with
      |none=>rfl
      |some d=>rw[hdh]at this;cases d<;>simp_all[mS,ek]
     rw[this];exact k4.2)
    simp only[aG.val,hd];have e0:ev p=.slice none 0 0:=by generalize ev p=vp at hv;cases hv;rfl
    refine eQ (v:=.slice none 0 0) ?_ .bM;have z1:ek (dO J l) 0=0:=ah;have z2:ek (dO J h) 0=0:=ah;rw[z1,z2]at b1;simp[execOp,ho,e0,Instr.sliceAt,Instr.slice,run_underlying hu,b1,dN hce]
   .rename_i k es;rw[hd]at hv;simp only[aG.val,hd];generalize hep:ev p=vp at hv;have hv2:=hv;cases hv with
    |sl aa b off len cap _ _ c hlen ha hcap hm hk hn hc' hone hh'=>
     subst hlen;obtain⟨b1,b2,b3⟩:=nH hρ (by rintro _ rfl;simp[ho,Op.operands]) (by rintro _ rfl;simp[ho,Op.operands]) hl hh k2 k3 true es.length cap (fun e=>by simp at e) hcap k4.2.1 k4.2.2;refine eQ (v:=.slice (if cap=ek (dO J l) 0 then aa else aa.map (·.add (ek (dO J l) 0*C.P.cellsOf e))) (ek (dO J h) es.length-ek (dO J l) 0) (cap-ek (dO J l) 0)) ?_ ?_
     .simp[execOp,ho,hep,Instr.sliceAt,Instr.slice,run_underlying hu,b1,dN hce]
     .rw[<-k4.1];exact VE hv2 b2 b3
   .rename_i L' k i n;rw[hd]at hv;simp only[aG.val,hd];obtain⟨k5,k6,k7⟩:=k4;obtain⟨aa,cap,he,hle0,hr⟩:=QA hv;obtain⟨b1,b2,b3⟩:=nH hρ (by rintro _ rfl;simp[ho,Op.operands]) (by rintro _ rfl;simp[ho,Op.operands]) hl hh k2 k3 true n cap (fun e=>by simp at e) hle0 k6 k7;refine eQ ?_ (hr _ _ b2 b3);simp only[execOp,ho,he,Instr.sliceAt,Instr.slice,run_underlying hu,Sem.run_bind,Result.andThen_ok,Option.map_none,b1,dN hce,Sem.run_pure,k5]
  .rename_i e a h mo hu h1 hl hh;obtain rfl:=xN hl;obtain⟨oh,rfl,hh1⟩:=xO hh;split at hc;rotate_left
   .cases hc
   rename_i ms hms;split at hc
   .cases hc
   rename_i hce;simp only[aP]at hc;subst hc;obtain⟨k1,k2,k3,k4⟩:=hob;have hv:=hρ p (by simp[ho,Op.operands,Call.operands]) a h1 k1;have hvh:=hρ oh (by simp[ho,Op.operands]) h hh1 k2;have hvm:=hρ mo (by simp[ho,Op.operands]) ms hms k3;cases hdh:(J h).d<;>simp only[hdh]at k4;cases hdm:(J ms).d<;>simp only[hdm]at k4;rename_i kh nh km nm;rw[hdh]at hvh;rw[hdm]at hvm;obtain⟨p1,p2,p3⟩:=k4;cases hd:(J a).d<;>simp only[hd]at p3
   ·
    rw[hd]at hv;simp only[aG.val,hd,hdh];have e0:ev p=.slice none 0 0:=by generalize ev p=vp at hv;cases hv;rfl
    have b1:=qH (C:=C) (x:=x) (len:=0) (cap:=0) hvh.dK hvm.dK p1 p2 ah;refine eQ (v:=.slice none 0 0) ?_ .bM;have z1:nh.toNat=0:=ah;have z2:nm.toNat=0:=ah;rw[z1,z2]at b1;simp[execOp,ho,e0,Instr.sliceAt,Instr.slice,run_underlying hu,b1,dN hce]
   .rename_i k es;rw[hd]at hv;simp only[aG.val,hd,hdh];generalize hep:ev p=vp at hv;have hv2:=hv;cases hv with
    |sl aa b off len cap _ _ c hlen ha hcap hm hk hn hc' hone hh'=>
     subst hlen;have b1:=qH (C:=C) (x:=x) (len:=es.length) (cap:=cap) hvh.dK hvm.dK p1 p2 ah;refine eQ (v:=.slice (if nm.toNat=0 then aa else aa.map (·.add (0*C.P.cellsOf e))) nh.toNat nm.toNat) ?_ ?_
     .simp[execOp,ho,hep,Instr.sliceAt,Instr.slice,run_underlying hu,b1,dN hce]
     .rw[<-p3.1];exact VC hv2 ah ah
   .rename_i L' k i n;rw[hd]at hv;simp only[aG.val,hd,hdh];obtain⟨k5,k6⟩:=p3;obtain⟨aa,cap,he,hle0,hr⟩:=Qz hv;have b1:=qH (C:=C) (x:=x) (len:=n) (cap:=cap) hvh.dK hvm.dK p1 p2 ah;refine eQ ?_ (hr nh.toNat nm.toNat ah ah);simp only[execOp,ho,he,Instr.sliceAt,Instr.slice,run_underlying hu,Sem.run_bind,Result.andThen_ok,Option.map_none,Option.map_some,b1,dN hce,Sem.run_pure,k5,Nat.sub_zero]
  .cases hc
 |fieldAddr t p fi=>
  simp only[CC.op,ho]at hc;split at hc
  .rename_i fs a hu h1;split at hc
   .rename_i fl hfl;split at hc
    .cases hc
    rename_i hce;simp only[aP]at hc;subst hc;obtain⟨k1,k2⟩:=hob;have hv:=hρ p (by simp[ho,Op.operands,Call.operands]) a h1 k1;have hrun:∀(b c:Nat),ev p=.pointer (some ⟨b,c,none⟩)->(execOp ev o).run C.P x.w=.ok (.value (.pointer (some ⟨b,c+fl.offset,none⟩))) x.w:=by
     intro b c he;simp[execOp,ho,he,Instr.fieldAt,run_underlying hu,hfl,Instr.sureAddr,fieldPlace,dN hce,hce,Addr.uC]
    cases hd:(J a).d<;>simp only[hd]at k2
    .rename_i k es i o';rw[hd]at hv;simp only[aG.val,hd];generalize hep:ev p=vp at hv;cases hv with
     |ref b off _ _ _ at_ _ c hI hat hk hn hc' h1' hh'=>
      exact eQ (hrun _ _ hep) (.ref b off k i (o'+fl.offset) _ es c hI ah hk hn hc' h1' hh')
    .rename_i l k i o';rw[hd]at hv;simp only[aG.val,hd];generalize hep:ev p=vp at hv;cases hv with
     |ptr _ _ _ _ b base tot at_ hβ hat=>
      exact eQ (hrun _ _ hep) (.ptr l k i (o'+fl.offset) b base tot _ hβ ah)
   .cases hc
  .cases hc
 |field t p fi=>
  simp only[CC.op,ho]at hc;split at hc
  .rename_i fs a hu h1;split at hc
   .rename_i fl hfl;split at hc
    .cases hc
    rename_i hce;simp only[aP]at hc;subst hc;obtain⟨k1,k2⟩:=hob;have hv:=hρ p (by simp[ho,Op.operands,Call.operands]) a h1 k1;cases hd:(J a).d<;>simp only[hd]at k2;rename_i ds;rw[hd]at hv;generalize hep:ev p=vp at hv;have hv2:=hv;cases hv with
    |agg cs _ _ _ _=>
     obtain⟨v,r1,r2⟩:=nn (P:=C.P) (t:=fl.type) (off:=fl.offset) (n:=C.P.cellsOf fl.type) (ag:=cI C.P fl.type) x.w hv2 (fun e=>hce (.inl e)) (by cases hn:(C.P.underlying fl.type).isNone with|false=>rfl|true=>exact absurd (.inr hn) hce) rfl rfl k2.1 k2.2;refine eQ (v:=v) ?_ (by simp only[aG.val,hd,D.cells];exact r2);simp[execOp,ho,hep,Instr.field,run_underlying hu,hfl,asAgg,r1]
   .cases hc
  .cases hc
 |indexAddr t p q=>
  simp only[CC.op,ho]at hc;split at hc
  .rename_i e a b hu h1 h2;split at hc
   .cases hc
   rename_i hce;simp only[aP]at hc;subst hc;obtain⟨k1,k2,k3⟩:=hob;have hv:=hρ p (by simp[ho,Op.operands,Call.operands]) a h1 k1;have hw:=hρ q (by simp[ho,Op.operands,Call.operands]) b h2 k2;cases hd2:(J b).d<;>cases hd:(J a).d<;>simp only[hd,hd2]at k3
   .rename_i kk n k es;rw[hd]at hv;rw[hd2]at hw;obtain⟨k4,k5,k6⟩:=k3;simp only[aG.val,hd,hd2];generalize hep:ev p=vp at hv;cases hv with
    |sl aa b' off len cap _ _ c hlen ha hcap hm hk hn hc' hone hh'=>
     rcases ha with rfl|⟨rfl,hI⟩
     .simp at k6;omega
     .refine eQ (v:=.pointer (some ⟨b',off+n.toNat*C.P.cellsOf e,none⟩)) ?_ ?_
      .simp[execOp,ho,hep,hw.dK,Instr.indexAt,asIntOf,run_underlying hu,hlen,k5,k6,dN hce,Addr.uC]
      .subst hlen;exact .ref b' off k n.toNat 0 _ es c hI (by rw[k4];omega) hk hn hc' hone hh'
   .rename_i kk n L' k i len;rw[hd]at hv;rw[hd2]at hw;obtain⟨k4,k5,k6⟩:=k3;simp only[aG.val,hd,hd2];generalize hep:ev p=vp at hv;cases hv with
    |own _ _ _ _ b' base tot cap aa hβ ha hcap hm ht=>
     have ha':=ha ah;subst ha';refine eQ (v:=.pointer (some ⟨b',base+i*k+n.toNat*C.P.cellsOf e,none⟩)) ?_ ?_
     .simp[execOp,ho,hep,hw.dK,Instr.indexAt,asIntOf,run_underlying hu,k5,k6,dN hce,Addr.uC]
     .exact .ptr L' k (i+n.toNat) 0 b' base tot _ hβ (by rw[Nat.add_mul,k4];omega)
    |own0=>omega
  .rename_i len e a b hu h1 h2;split at hc
   .cases hc
   rename_i hce;simp only[aP]at hc;subst hc;obtain⟨k1,k2,k3⟩:=hob;have hv:=hρ p (by simp[ho,Op.operands,Call.operands]) a h1 k1;have hw:=hρ q (by simp[ho,Op.operands,Call.operands]) b h2 k2;have hrun:∀(b c:Nat) (kk:IntKind) (n:Int),ev p=.pointer (some ⟨b,c,none⟩)->ev q=.int kk n->0<=n->n<len->(execOp ev o).run C.P x.w=.ok (.value (.pointer (some ⟨b,c+n.toNat*C.P.cellsOf e,none⟩))) x.w:=by
    intro b c kk n he he' g1 g2;simp[execOp,ho,he,he',Instr.indexAt,asIntOf,run_underlying hu,Instr.sureAddr,g1,g2,dN hce,Addr.uC]
   cases hd2:(J b).d<;>cases hd:(J a).d<;>simp only[hd,hd2]at k3
   .rename_i kk n k es i o';rw[hd]at hv;rw[hd2]at hw;simp only[aG.val,hd,hd2];generalize hep:ev p=vp at hv;cases hv with
    |ref b' off _ _ _ at_ _ c hI hat hk hn hc' h1' hh'=>
     exact eQ (hrun _ _ _ _ hep hw.dK k3.1 k3.2) (.ref b' off k i (o'+n.toNat*C.P.cellsOf e) _ es c hI ah hk hn hc' h1' hh')
   .rename_i kk n L' k i o';rw[hd]at hv;rw[hd2]at hw;simp only[aG.val,hd,hd2];generalize hep:ev p=vp at hv;cases hv with
    |ptr _ _ _ _ b' base tot at_ hβ hat=>
     exact eQ (hrun _ _ _ _ hep hw.dK k3.1 k3.2) (.ptr L' k i (o'+n.toNat*C.P.cellsOf e) b' base tot _ hβ ah)
  .cases hc
 |index t p q=>
  simp only[CC.op,ho]at hc;split at hc
  .rename_i a b hu h1 h2;simp only[aP]at hc;subst hc;obtain⟨k1,k2,k3⟩:=hob;have hv:=hρ p (by simp[ho,Op.operands,Call.operands]) a h1 k1;have hw:=hρ q (by simp[ho,Op.operands,Call.operands]) b h2 k2;cases hd2:(J b).d<;>cases hd:(J a).d<;>simp only[hd,hd2]at k3;rename_i kk n s;rw[hd]at hv;rw[hd2]at hw;obtain⟨e1,e2⟩:=hv.ic;simp only[aG.val,hd,hd2];have hsz:(⟨⟨s⟩⟩:ByteArray).size=s.length:=rfl;have hlt:n.toNat<s.length:=ah;refine eQ (v:=.int .u8 (s.getD n.toNat 0).toNat) ?_ (.int _ _);simp only[execOp,ho,e1,hw.dK,Sem.run_bind,run_index_string x.w t _ kk n hu,hsz];rw[dif_pos k3];simp only[Result.andThen_ok,Sem.run_pure];congr 4;show(((⟨s⟩:Array UInt8)[n.toNat]'hlt)).toNat=_;simp[List.getD,hlt]
  .rename_i len e a b hu h1 h2;split at hc
   .cases hc
   rename_i hce;simp only[aP]at hc;subst hc;obtain⟨k1,k2,k0,k3⟩:=hob;have hv:=hρ p (by simp[ho,Op.operands,Call.operands]) a h1 k1;have hw:=hρ q (by simp[ho,Op.operands,Call.operands]) b h2 k2;cases hd2:(J b).d<;>cases hd:(J a).d<;>simp only[hd,hd2]at k3;rename_i kk n ds;rw[hd]at hv;rw[hd2]at hw;generalize hep:ev p=vp at hv;have hv2:=hv;cases hv with
   |agg cs _ _ _ _=>
    have hb:n.toNat*C.P.cellsOf e+C.P.cellsOf e<=ds.length:=by
     rw[k3.2.2,<-Nat.succ_mul];exact fg _ ah
    obtain⟨v,r1,r2⟩:=nn (P:=C.P) (t:=e) (off:=n.toNat*C.P.cellsOf e) (n:=C.P.cellsOf e) (ag:=cI C.P e) x.w hv2 (fun e=>hce (.inl e)) (by cases hn:(C.P.underlying e).isNone with|false=>rfl|true=>exact absurd (.inr hn) hce) rfl rfl hb k0;refine eQ (v:=v) ?_ (by simp only[aG.val,hd,hd2,D.cells];exact r2);simp[execOp,ho,hep,hw.dK,Instr.index,asIntOf,run_underlying hu,k3.1,k3.2.1,dN (fun e=>hce (.inl e)),r1]
  .cases hc
 |extract p n=>
  simp only[CC.op,ho,cS]at hc;obtain⟨s,h1,rfl⟩:=hc;obtain⟨k1,k2⟩:=hob;have hv:=hρ p (by simp[ho,Op.operands,Call.operands]) s h1 k1;cases hd:(J s).d<;>simp only[hd]at k2;rw[hd]at hv;generalize hep:ev p=vp at hv;cases hv with
  |tup cs _ hl hh=>
   have hlt:n<cs.size:=ah;refine eQ (v:=cs.getD n undef) ?_ (by simp only[aG.val,hd];exact hh n k2);simp[execOp,ho,hep,Instr.extract,Array.getElem?_eq_getElem hlt,Array.getD,hlt]
 |call c=>
  obtain⟨callee,args,argTypes⟩:=c;cases callee with
  |builtin bu=>
   cases bu with
   |len=>
    simp only[CC.op,ho]at hc;split at hc
    .rename_i p t hargs htys;have hargs':args=#[p]:=by apply Array.ext';simpa using hargs
     have htys':argTypes=#[t]:=by apply Array.ext';simpa using htys
     subst hargs';subst htys';split at hc
     .rename_i a h1 hu;simp only[aP]at hc;subst hc;obtain⟨k1,k2⟩:=hob;have hv:=hρ p (by simp[ho,Op.operands,Call.operands]) a h1 k1;have hrun:∀s,ev p=.string s->(execOp ev o).run C.P x.w=.ok (.value (.int .i64 s.size)) x.w:=by
       intro s he;simp[execOp,ho,resolve,invoke,builtin,Builtin.len_,he,run_underlying hu,goInt]
      cases hd:(J a).d<;>simp only[hd]at k2
      .rw[hd]at hv;simp only[aG.val,hd];exact eQ (hrun _ hv.ic.1) (.int _ _)
     .rename_i a e h1 hu;simp only[aP]at hc;subst hc;obtain⟨k1,k2⟩:=hob;have hv:=hρ p (by simp[ho,Op.operands,Call.operands]) a h1 k1;have hrun:∀b n cc,ev p=.slice b n cc->(execOp ev o).run C.P x.w=.ok (.value (.int .i64 n)) x.w:=by
       intro b n cc he;simp[execOp,ho,resolve,invoke,builtin,Builtin.len_,he,run_underlying hu,goInt]
      cases hd:(J a).d<;>simp only[hd]at k2
      .rw[hd]at hv;simp only[aG.val,hd];generalize hep:ev p=vp at hv;cases hv;exact eQ (hrun _ _ _ hep) (.int _ _)
      .rw[hd]at hv;simp only[aG.val,hd];generalize hep:ev p=vp at hv;cases hv with
       |sl aa b off len cap _ _ cf hlen ha hcap hm hk hn hc' hone hh'=>
        subst hlen;exact eQ (hrun _ _ _ hep) (.int _ _)
      .rw[hd]at hv;simp only[aG.val,hd];generalize hep:ev p=vp at hv;cases hv with
       |own _ _ _ _ b base tot cap aa hβ ha hcap hm ht=>
        exact eQ (hrun _ _ _ hep) (.int _ _)
       |own0=>exact eQ (hrun _ _ _ hep) (.int _ _)
     .cases hc
    .cases hc
   |min=>
    simp only[CC.op,ho]at hc;split at hc
    .rename_i p q hargs;have hargs':args=#[p,q]:=by apply Array.ext';simpa using hargs
     subst hargs';split at hc
     .rename_i a b h1 h2;simp only[aP]at hc;subst hc;obtain⟨k1,k2,k3⟩:=hob;have hv:=hρ p (by simp[ho,Op.operands,Call.operands]) a h1 k1;have hw:=hρ q (by simp[ho,Op.operands,Call.operands]) b h2 k2;cases hd:(J a).d<;>cases he:(J b).d<;>simp only[hd,he]at k3;rw[hd]at hv;rw[he]at hw;simp only[aG.val,hd,he];refine eQ ?_ (.int _ _);simp[execOp,ho,resolve,invoke,builtin,Builtin.min_,Builtin.min2,hv.dK,hw.dK]
     .cases hc
    .cases hc
   |append=>simp only[CC.op,ho]at hc;(repeat' split at hc)<;>simp_all[aG.pure]<;>(subst hc;simp_all[aG.pure])
   |_=>simp[CC.op,ho]at hc
  |value f=>
   cases f with
   |func fid=>simp only[CC.op,ho]at hc;(repeat' split at hc)<;>simp_all[aG.pure]<;>(subst hc;simp_all[aG.pure])
   |tmp t=>simp only[CC.op,ho]at hc;(repeat' split at hc)<;>simp_all[aG.pure]<;>(subst hc;simp_all[aG.pure])
   |_=>simp[CC.op,ho]at hc
  |invoke r n=>
   simp only[CC.op,ho]at hc;split at hc
   .simp only[cS]at hc;obtain⟨_,_,rfl⟩:=hc;simp[aG.pure]at hp
   .cases hc
 |alloc t=>simp only[CC.op,ho]at hc;(repeat' split at hc)<;>simp_all[aG.pure]<;>(subst hc;simp_all[aG.pure])
 |box t p=>simp only[CC.op,ho]at hc;(repeat' split at hc)<;>simp_all[aG.pure]<;>(subst hc;simp_all[aG.pure])
 |buildSlice t n ps=>simp only[CC.op,ho]at hc;(repeat' split at hc)<;>simp_all[aG.pure]<;>(subst hc;simp_all[aG.pure])
 |load t p=>
  simp only[CC.op,ho]at hc;split at hc
  .rename_i d hg;obtain rfl:=bd hc;cases p with
   |global g=>
    simp only[CC.Ms]at hg;split at hg
    .rename_i hh;obtain rfl:=bd hg;obtain⟨h1,h2,h3,h4⟩:=hh;have hcell:=di.gzr x g hs.gd (hgz g h1);obtain⟨v,r1,r2⟩:=nU (ν:=C.ν) (x:=x) (P:=C.P) (e:=zVD) (k:=5) (n:=5) (o:=0) (b:=g) (at0:=0) (ag:=true) (ty:=t) (c:=RQ) rfl ah
      (fun j hj=>⟨by simpa using hcell j hj,by unfold RQ;split<;>rfl,by
        unfold RQ zVD
        match j,hj with
        |0,_=>exact .int _ _
        |1,_=>exact .int _ _
        |2,_=>exact .int _ _
        |3,_=>exact .str [] bg
        |4,_=>exact .str [] bg⟩) h2.symm ah h4 h3.symm (fun h=>by cases h)
     refine eQ (v:=v) ?_ (by simp only[aG.val,hcst];exact r2);have hev:ev (.global g)=.pointer (some ⟨g,0,none⟩):=hgl g;simp[execOp,ho,hev,Instr.loadAt,Instr.sureAddr,r1]
    .cases hg
   |_=>simp[CC.Ms]at hg
  ·(repeat' split at hc)<;>simp_all[aG.pure]<;>(subst hc;simp_all[aG.pure])
 |makeSlice t a b=>simp only[CC.op,ho]at hc;(repeat' split at hc)<;>simp_all[aG.pure]<;>(subst hc;simp_all[aG.pure])
 |range t p=>simp only[CC.op,ho]at hc;(repeat' split at hc)<;>simp_all[aG.pure]<;>(subst hc;simp_all[aG.pure])
 |next it b=>
  cases b
  .simp[CC.op,ho]at hc
  .simp only[CC.op,ho,cS]at hc;obtain⟨s,h1,rfl⟩:=hc;simp[aG.pure]at hp
 |makeMap t r=>cases r<;>simp only[CC.op,ho]at hc<;>(try cases hc)<;>(repeat' split at hc)<;>simp_all[aG.pure]<;>(subst hc;simp_all[aG.pure])
 |mapUpdate t a b c=>simp only[CC.op,ho]at hc;(repeat' split at hc)<;>simp_all[aG.pure]<;>(subst hc;simp_all[aG.pure])
 |_=>simp[CC.op,ho]at hc
def Qx {o:Oper}{i:aG}(hgz:∀g,C.cr.contains (500000000+g)=true/\g<400000000->di.gz g)(hcst:∀d,J (.c d)=⟨true,d⟩)(hsm:∀fid n,dp C.ν fid=some n->n<1000000)(hc:C.op defs o=some i)(hp:i.pure=true)(hρ:pM C defs J ev x o.op.operands.toList)(hob:i.dE Y J m)(hs:eK C.ν x f)(hgl:∀g,ev (.global g)=.pointer (some ⟨g,0,none⟩)):
  uB C.ν x f L (i.val Y J m L) ((execOp ev o).run C.P x.w):=(Dr hgz hcst hsm hc hp hρ hob hs hgl).did hs
end
end
abbrev bw (Y:Ctx)(n:Nat)(ds:List D)(d:D):Prop:=Y.pre n ds/\Y.val n ds=d
section
variable [di]
def nR {α:Type}(l:List α)(j:Nat)(d:α)(h:j<l.length):l.getD j d=l[j]:=by simp[List.getD,h]
def Nk (cs new:List D)(o:Nat)(h:o+new.length<=cs.length):(over cs o new).length=cs.length:=by
 grind [over]
def Ks (cs new:List D)(o:Nat)(h:o+new.length<=cs.length)(j:Nat)(d:D):(over cs o new).getD j d=if o<=j/\j<o+new.length then new.getD (j-o) d else cs.getD j d:=by
 grind [over]
theorem cE (m:List (Nat×bL))(L:Nat)(b:bL)(l:Nat):look (cR m L b) l=if l=L then some b else look m l:=by
 induction m with
 |nil=>by_cases h:l=L<;>simp[cR,look,h,eq_comm]<;>omega
 |cons p r ih=>
  grind [cR,look]
theorem fo (m:List (Nat×bL))(k l:Nat):look (cA m k) l=if l=k then none else look m l:=by
 induction m with
 |nil=>simp[cA,look]
 |cons p r ih=>
  grind [cA,look]
def ij (f:Nat->Option bL)(ws:List Nat)(m':List (Nat×bL)):Nat->Option bL:=fun l=>if l∈ws then look m' l else f l
section
variable {ν:List (Nat×Nat)} {x:X} {P:Program}
def kf (b:Nat):∀(vs:List Value) (o:Nat) (w:World) (c:Array Value) (T:TypeId) (fr:Nat×Nat),w.heap[b]? =some (.cells c T fr)->o+vs.length<=c.size->
  ∃c',(w.setCells b o vs).heap[b]? =some (.cells c' T fr)/\c'.size=c.size/\∀q,c'.getD q undef=if o<=q/\q<o+vs.length then vs.getD (q-o) undef else c.getD q undef
 |[],o,w,c,T,fr,h,_=>⟨c,by simpa[World.setCells]using h,rfl,fun q=>by rw[aj (fun e=>by have:=e.1;have:=e.2;simp at this;omega)]⟩
 |v::r,o,w,c,T,fr,h,hl=>by
  simp only[aT]at hl;have h1:(w.setCell ⟨b,o,none⟩ v).heap[b]? =some (.cells (c.setIfInBounds o v) T fr):=by
   simp[World.setCell,Array.getElem?_modify,h]
  obtain⟨c',g1,g2,g3⟩:=kf b r (o+1) _ _ T fr h1 dH;refine⟨c',by simpa[World.setCells]using g1,by simpa using g2,fun q=>?_⟩;rw[g3 q];simp only[aT];by_cases q1:o+1<=q/\q<o+1+r.length
  .rw[ay q1,ay ah,show q-o=(q-(o+1))+1 by omega];simp
  .rw[aj q1];by_cases q2:q=o
   .subst q2;rw[ay ah];simp[Array.getD,show q<c.size by omega]
   .rw[aj ah];rw[<-cB,<-cB];simp[List.getD,List.getElem?_set,show ¬o=q by omega]
def jI (b:Nat):∀(vs:List Value) (o:Nat) (w:World) (b':Nat),b'≠b->(w.setCells b o vs).heap[b']? =w.heap[b']?
 |[],o,w,b',_=>rfl
 |v::r,o,w,b',h=>by
  rw[show w.setCells b o (v::r)=(w.setCell ⟨b,o,none⟩ v).setCells b (o+1) r from rfl,jI b r (o+1) _ b' h];simp[World.setCell,Array.getElem?_modify,show b≠b' by omega]
def jH (b:Nat):∀(vs:List Value) (o:Nat) (w:World),(w.setCells b o vs).os=w.os/\(w.setCells b o vs).tape=w.tape/\(w.setCells b o vs).output=w.output/\(w.setCells b o vs).heap.size=w.heap.size
 |[],o,w=>⟨rfl,rfl,rfl,rfl⟩
 |v::r,o,w=>by
  have:=jH b r (o+1) (w.setCell ⟨b,o,none⟩ v);exact⟨this.1,this.2.1,this.2.2.1,by rw[show w.setCells b o (v::r)=(w.setCell ⟨b,o,none⟩ v).setCells b (o+1) r from rfl,this.2.2.2];simp⟩
def cell_of_heap {w:World}{b o:Nat}{c:Array Value}{T:TypeId}{fr:Nat×Nat}(h:w.heap[b]? =some (.cells c T fr))(ho:o<c.size):w.cell? ⟨b,o,none⟩=some (c.getD o undef):=by
 rw[cell_of_row w b o c T fr h];simp[Array.getD,ho]
def qD {f:Nat->Option bL}{m:List (Nat×bL)}{l k n:Nat}(hs:eK ν x f)(hf:f l=look m l)(hb:eM m l k n):
  f l=some (.buf k (bh m l))/\n<=(bh m l).length/\look m l=some (.buf k (bh m l)):=by
 grind [eM,bh,look]
theorem iA {i k tot j:Nat}(hi:i<tot)(hj:j<k):i*k+j<tot*k:=by
 have:(i+1)*k<=tot*k:=fg _ hi;rw[Nat.succ_mul]at this;omega
def yQ (f:Nat->Option bL)(m:List (Nat×bL)):Option (List Nat)->Prop
 |none=>∀l,look m l≠none->f l=look m l
 |some ls=>∀l,l∈ls->f l=look m l
def mi {f f':Nat->Option bL}{L tot:Nat}{w':World}{blk:bL}{v:Value}{d:D}{r:Result Next}(hs:eK ν x f)(hL:x.β L=none)(hw:fU x.w w')(hnw:x.w.heap.size<w'.heap.size)
  (hb:mG ν ⟨w',x.I,eu x.β L (x.w.heap.size,0,tot)⟩ x.w.heap.size 0 tot blk) (hv:RD ν ⟨w',x.I,eu x.β L (x.w.heap.size,0,tot)⟩ v d)
  (hr:r=.ok (.value v) w') (hf:∀l,f' l=iM f L (some blk) l):uB ν x f' L d r:=by
 have e:f'=iM f L (some blk):=funext hf;subst e;exact⟨v,⟨w',x.I,eu x.β L (x.w.heap.size,0,tot)⟩,.inl hr,yv hw (aM _) hL hs.imm,hv,QX hs hw (aM _) hnw hL hb,fun l hl=>by simp[eu,hl]⟩
def rE {n:Nat}{w':World}{L tot k:Nat}{c:Array Value}{T:TypeId}{fr:Nat×Nat}{es:List D}(x':X)(hx:x'.w.heap[n]? =some (.cells c T fr))(hk:0<k)(ht:es.length<=tot)(hc:tot*k<=c.size)
  (hfr:∀o,o<c.size->¬(fr.1<=o/\o<fr.2))
  (he:∀i,i<es.length->(es.getD i .any).cells.length=k/\∀j,j<k->(c.getD (i*k+j) undef).oneCell'=true/\RD ν x' (c.getD (i*k+j) undef) ((es.getD i .any).cells.getD j .any)):
  mG ν x' n 0 tot (.buf k es):=
 ⟨hk,ht,c,T,fr,hx,ah,hfr,fun i hi=>⟨(he i hi).1,fun j hj=>by simpa using(he i hi).2 j hj⟩⟩
end
section
variable {x:X} {f:Nat->Option bL} {C:CC} {defs:List (Option Nat)} {J:Src->bI} {ev:Operand->Value} {Y:Ctx} {m:List (Nat×bL)} {L:Nat}
def Bh (hs:eK C.ν x f){w':World}{tot:Nat}(hw:fU x.w w')(hL:x.β L=none):Le x ⟨w',x.I,eu x.β L (x.w.heap.size,0,tot)⟩:=
 (yv hw (aM _) hL hs.imm).le
def He {v:Value}{d:D}{k:Nat}{T:TypeId}{r:Result Next}(hs:eK C.ν x f)(hL:x.β L=none)(hv:RD C.ν x v d)(hk:d.cells.length=k)(hk0:k≠0)
  (hr:r=.ok (.value (.pointer (some ⟨x.w.heap.size,0,none⟩))) (x.w.alloc (.cells v.cells T))):
  uB C.ν x (ij f [L] (cR m L (.buf k [d]))) L (.ptr L k 0 0) r:=by
 have hw:=fU.alloc x.w (.cells v.cells T);have hle:=Bh (tot:=1) hs hw hL;obtain⟨c1,c2⟩:=hv.cells ah;refine mi (tot:=1) (blk:=.buf k [d]) hs hL hw bg ?_ (.ptr L k 0 0 x.w.heap.size 0 1 0 (by simp[eu]) bg) hr (fun l=>?_)
 .refine rE (w':=x.w) (L:=L) _ (ea x.w _) ah bg ah (fun o _=>bg) (fun i hi=>?_);simp at hi;subst hi;refine⟨by simpa using hk,fun j hj=>?_⟩;have:=c2 j ah;exact⟨by simpa using this.1,by simpa using this.2.mono hle⟩
 grind [ij,cE,iM]
def PU {v:Value}{r:Result Next}(hs:eK C.ν x f)(hL:x.β L=none)(hv:RD C.ν x v (.agg [.nilp,.bM]))
  (hr:r=.ok (.value (.pointer (some ⟨x.w.heap.size,0,none⟩))) (x.w.alloc (.cells v.cells di.tB))):
  uB C.ν x (ij f [L] (cR m L (.bld none 0 false))) L (.ptr L 2 0 0) r:=by
 have hw:=fU.alloc x.w (.cells v.cells di.tB);refine mi (tot:=1) (blk:=.bld none 0 false) hs hL hw bg ?_ (.ptr L 2 0 0 x.w.heap.size 0 1 0 (by simp[eu]) bg) hr (fun l=>?_)
 .refine⟨rfl,.slice none 0 0, ?_,rfl,rfl⟩;refine(ea x.w _).trans ?_;cases hv with
  |agg cs _ hl h1 h=>
   have e0:=h 0 bg;have e1:=h 1 bg;simp only[gB,List.getD_cons_succ]at e0 e1;have hl2:cs.size=2:=hl;have hcs:cs=#[.pointer none,.slice none 0 0]:=by
    apply Array.ext
    .simpa using hl2
    .intro i hi1 hi2;have hi:i=0\/i=1:=ah;rcases hi with rfl|rfl
     .generalize hq:cs.getD 0 undef=q at e0;cases e0;simp[Array.getD,hi1]at hq;simpa using hq
     .generalize hq:cs.getD 1 undef=q at e1;cases e1;simp[Array.getD,hi1]at hq;simpa using hq
   subst hcs;rfl
 .by_cases e:l=L
  .subst e;simp[ij,cE,iM]
  .simp[ij,e,iM]
def Hf {v:Value}{T:TypeId}{r:Result Next}(hs:eK C.ν x f)(hr:r=.ok (.value (.pointer (some ⟨x.w.heap.size,0,none⟩))) (x.w.alloc (.cells v.cells T))):uB C.ν x f L (.fn 4700000 []) r:=
 ⟨_,⟨x.w.alloc (.cells v.cells T),x.I,x.β⟩,.inl hr,.grow (fU.alloc _ _) hs.imm,.zp _,hs.grow (fU.alloc _ _),fun _ _=>rfl⟩
def M8 {o:Oper}{i:aG}(hc:C.op defs o=some i)(ho:(∃t,o.op=.alloc t)\/∃t p,o.op=.box t p)(hρ:pM C defs J ev x o.op.operands.toList)(hcst:∀d,J (.c d)=⟨true,d⟩)(hob:i.dE Y J m)(hs:eK C.ν x f)(hL:x.β L=none)(hB:∀t,C.cr.contains (1000000000+t)=true->t=di.tB):
  uB C.ν x (ij f (i.wr J L) (i.cr Y J m L)) L (i.val Y J m L) ((execOp ev o).run C.P x.w):=by
 rcases ho with⟨t,ho⟩|⟨t,p,ho⟩
 .simp only[CC.op,ho]at hc;split at hc
  .rename_i z hz;obtain⟨ti,v,hi,hzv,hr⟩:=j5 (x:=x) hz;split at hc
   .obtain rfl:=bd hc;exact Hf (v:=v) (T:=t) hs (by simp[execOp,ho,Instr.alloc,zeroValue,typeInfo,hi,hzv,newVar,newRow])
   rename_i hce;split at hc
   .rename_i hB0;split at hc
    .simp only[aP]at hc;subst hc;exact PU hs hL hr (by rw[<-hB t hB0];simp[execOp,ho,Instr.alloc,zeroValue,typeInfo,hi,hzv,newVar,newRow])
    .cases hc
   simp only[aP]at hc;subst hc;obtain⟨k1,k2⟩:=hob;simp only[hcst]at k2;have e:(aG.box (C.P.cellsOf t) (.c z)).cr Y J m L=cR m L (.buf (C.P.cellsOf t) [z]):=by simp[aG.cr,hcst]
   rw[e];refine He (T:=t) hs hL hr k2 hce ?_;simp[execOp,ho,Instr.alloc,zeroValue,typeInfo,hi,hzv,newVar,newRow]
  .cases hc
 .simp only[CC.op,ho]at hc;split at hc
  .rename_i s h1;split at hc
   .obtain rfl:=bd hc;exact Hf (v:=ev p) (T:=t) hs (by simp[execOp,ho,Instr.box,newVar,newRow])
   rename_i hce;simp only[aP]at hc;subst hc;obtain⟨k1,k2⟩:=hob;exact He (T:=t) hs hL (hρ p (by simp[ho,Op.operands,Call.operands]) s h1 k1) k2 hce (by simp[execOp,ho,Instr.box,newVar,newRow])
  .cases hc
def Dq {o:Oper}{i:aG}{t:TypeId}{p:Operand}(hpu:¬i.pure=true)(hsm:∀fid n,dp C.ν fid=some n->n<1000000)(hc:C.op defs o=some i)(ho:o.op=.load t p)(hρ:pM C defs J ev x o.op.operands.toList)(hob:i.dE Y J m)(hs:eK C.ν x f)(hag:yQ f m (i.kY J)):
  Cj C.ν x (i.val Y J m L) ((execOp ev o).run C.P x.w):=by
 simp only[CC.op,ho]at hc;split at hc
 .obtain rfl:=bd hc;exact absurd rfl hpu
 split at hc
 .rename_i s h1;split at hc
  .cases hc
  rename_i hce;simp only[aP]at hc;subst hc;obtain⟨k1,k2⟩:=hob;have hv:=hρ p (by simp[ho,Op.operands,Call.operands]) s h1 k1;have hn0:C.P.cellsOf t≠0:=fun e=>hce (.inl e)
  have hu:(C.P.underlying t).isNone=false:=by cases hn:(C.P.underlying t).isNone with|false=>rfl|true=>exact absurd (.inr (.inl hn)) hce
  have h1':cI C.P t=false->C.P.cellsOf t=1:=fun e=>by
   rcases Nat.decEq (C.P.cellsOf t) 1 with h|h
   .exact absurd (.inr (.inr ⟨e,h⟩)) hce
   .exact h
  cases hd:(J s).d<;>simp only[hd,uN]at k2
  .rename_i k es i o';rw[hd]at hv;generalize hep:ev p=vp at hv;cases hv with
   |ref b off _ _ _ at_ _ c hI hat hk hn hcc hone hh=>
    obtain⟨v,r1,r2⟩:=nU (P:=C.P) (ν:=C.ν) (x:=x) (e:=es.getD i .any) (k:=k) (n:=C.P.cellsOf t) (o:=o') (b:=b) (at0:=off+i*k) (ag:=cI C.P t) (ty:=t) (c:=c i) (hk i k2.1) k2.2
     (fun j hj=>⟨hcc i j k2.1 hj,hone i j k2.1 hj,hh i j k2.1 hj⟩) rfl hn0 hu rfl h1'
    refine eQ (v:=v) ?_ (by simp only[aG.val,hd,uc];exact r2);simp[execOp,ho,hep,Instr.loadAt,Instr.sureAddr,hat,r1]
  .rename_i l k i o';rw[hd]at hv;generalize hep:ev p=vp at hv;cases hv with
   |ptr _ _ _ _ b base tot at_ hβ hat=>
    obtain⟨g1,g2,g3⟩:=qD (n:=i+1) hs (hag l (by simp[hd,dk])) k2.1;obtain⟨hnI,hk0,ht,c,T,fr,q1,q2,q3,q4⟩:=hs.own l _ b base tot g1 hβ;have hi:i<(bh m l).length:=ah;obtain⟨v,r1,r2⟩:=nU (P:=C.P) (ν:=C.ν) (x:=x) (e:=(bh m l).getD i .any) (k:=k) (n:=C.P.cellsOf t) (o:=o') (b:=b) (at0:=base+i*k) (ag:=cI C.P t) (ty:=t) (c:=fun j=>c.getD (base+i*k+j) undef)
     ((q4 i hi).1) k2.2
     (fun j hj=>⟨cell_of_heap q1 (by have:=iA (tot:=tot) (show i<tot by omega) hj;omega),((q4 i hi).2 j hj).1,((q4 i hi).2 j hj).2⟩) rfl hn0 hu rfl h1'
    refine eQ (v:=v) ?_ (by simp only[aG.val,hd,uc];exact r2);simp[execOp,ho,hep,Instr.loadAt,Instr.sureAddr,hat,r1]
  .rename_i q es;obtain⟨hq2,e1,e2,e3⟩:=k2;rw[hd]at hv;generalize hep:ev p=vp at hv;cases hv with
   |mp=>exfalso;omega
   |ifc=>exfalso;omega
   |ifn=>exfalso;omega
   |mpn=>exfalso;omega
   |zp=>exfalso;omega
   |im=>exfalso;omega
   |fn fid _ cs ds hν=>exact absurd (hsm _ _ hν) ah
   |ek fid _ cs ds hν=>exact absurd (hsm _ _ hν) ah
   |bx b at_ _ v0 hI hc0 h1 hl hh=>
    obtain⟨v,r1,r2⟩:=nU (P:=C.P) (ν:=C.ν) (x:=x) (e:=es.getD 0 .any) (k:=1) (n:=C.P.cellsOf t) (o:=0) (b:=b) (at0:=at_) (ag:=cI C.P t) (ty:=t) (c:=fun _=>v0) (by rw[e3];rfl) ah
     (fun j hj=>by obtain rfl:j=0:=ah;exact⟨hc0,h1,by rw[e3];exact hh 0 ah⟩) rfl hn0 hu rfl h1'
    refine eQ (v:=v) ?_ (by simp only[aG.val,hd,uc];exact r2);simp only[Nat.add_zero]at r1;simp[execOp,ho,hep,Instr.loadAt,Instr.sureAddr,r1]
 .cases hc
def Qv {o:Oper}{i:aG}{t:TypeId}{p:Operand}(hpu:¬i.pure=true)(hsm:∀fid n,dp C.ν fid=some n->n<1000000)(hc:C.op defs o=some i)(ho:o.op=.load t p)(hρ:pM C defs J ev x o.op.operands.toList)(hob:i.dE Y J m)(hs:eK C.ν x f)(hag:yQ f m (i.kY J)):
  uB C.ν x (ij f (i.wr J L) (i.cr Y J m L)) L (i.val Y J m L) ((execOp ev o).run C.P x.w):=by
 have haf:ij f (i.wr J L) (i.cr Y J m L)=f:=by
  have hw:i.wr J L=[]:=by
   simp only[CC.op,ho]at hc
   (repeat' split at hc)<;>simp only[aP,reduceCtorEq]at hc<;>subst hc<;>rfl
  funext l;simp[ij,hw]
 rw[haf];exact(Dq hpu hsm hc ho hρ hob hs hag).did hs
def Nc {o:Oper}{i:aG}{t:TypeId}{p q:Operand}(hpu:¬i.pure=true)(hc:C.op defs o=some i)(ho:o.op=.store t p q)(hρ:pM C defs J ev x o.op.operands.toList)(hob:i.dE Y J m)(hs:eK C.ν x f)(hag:yQ f m (i.kY J)):
  uB C.ν x (ij f (i.wr J L) (i.cr Y J m L)) L (i.val Y J m L) ((execOp ev o).run C.P x.w):=by
 simp only[CC.op,ho]at hc;split at hc
 .rename_i s u h1 h2;split at hc
  .split at hc
   .obtain rfl:=bd hc;exact absurd rfl hpu
   .cases hc
  rename_i hce;simp only[aP]at hc;subst hc;obtain⟨k1,k2,k3,k4⟩:=hob;have hv:=hρ p (by simp[ho,Op.operands,Call.operands]) s h1 k1;have hw:=hρ q (by simp[ho,Op.operands,Call.operands]) u h2 k2;cases hd:(J s).d<;>simp only[hd]at k4;rename_i l k i o';rw[hd]at hv;generalize hep:ev p=vp at hv;cases hv with
  |ptr _ _ _ _ b base tot at_ hβ hat=>
   obtain⟨g1,g2,g3⟩:=qD (n:=i+1) hs (hag l (by simp[hd,dk])) k4.1;obtain⟨hnI,hk0,ht,c,T,fr,q1,q2,q3,q4⟩:=hs.own l _ b base tot g1 hβ;have hi:i<(bh m l).length:=ah;obtain⟨c1,c2⟩:=hw.cells ah;have hnl:(ev q).cells.toList.length=C.P.cellsOf t:=dH;have hin:∀j,j<C.P.cellsOf t->base+i*k+o'+j<c.size:=fun j hj=>by
    have:=iA (tot:=tot) (i:=i) (k:=k) (j:=o'+j) ah ah;omega
   have hst:=run_storeCells_cells (P:=C.P) b (base+i*k+o') (ev q).cells.toList 0 x.w
    (fun j hj=>by rw[cell_of_heap q1 (by have:=hin j ah;omega)];rfl)
    (fun j hj=>by
      have:=q3 (base+i*k+o'+0+j) (by have:=hin j ah;omega);simp only[World.frozen?,q1];simp only[ey,dn];omega)
    (fun v hv=>by
      obtain⟨j,hj,rfl⟩:=List.mem_iff_getElem.1 hv;rw[<-nR _ j undef hj,cB];exact(c2 j ah).1)
   simp only[Nat.add_zero]at hst;obtain⟨c',s1,s2,s3⟩:=kf b (ev q).cells.toList (base+i*k+o') x.w c T fr q1 (by have:=hin (C.P.cellsOf t-1) ah;omega);obtain⟨f1,f2,f3,f4⟩:=jH b (ev q).cells.toList (base+i*k+o') x.w
   let w':=x.w.setCells b (base+i*k+o') (ev q).cells.toList
   have hother:∀b',b'≠b->w'.heap[b']? =x.w.heap[b']? :=fun b' hb'=>jI b _ _ _ b' hb'
   have hstep:Step x ⟨w',x.I,x.β⟩:=by
    refine⟨f1,f2,f3,by show _<=w'.heap.size;rw[f4];exact aM _,fun _ h=>h,fun b' hb'=>hother b' (fun e=>hnI (e▸hb')),fun _ _ h=>h,fun b' _ hn=>hother b' (fun e=>hn l _ hβ e.symm),fun _ h=>.inl h,fun _ _ h=>.inl h⟩
   let es':=(bh m l).set i (uV ((bh m l).getD i .any) k (C.P.cellsOf t) o' (J u).d)
   have hle:=hstep.le

   have hel:(uV ((bh m l).getD i .any) k (C.P.cellsOf t) o' (J u).d).cells.length=k/\∀j,j<k->
     (uV ((bh m l).getD i .any) k (C.P.cellsOf t) o' (J u).d).cells.getD j .any=if o'<=j/\j<o'+C.P.cellsOf t then(J u).d.cells.getD (j-o') .any else((bh m l).getD i .any).cells.getD j .any:=by
    unfold uV;have hkl:=(q4 i hi).1;cases hnk:((C.P.cellsOf t==k)&&((J u).d.isAgg ||!((bh m l).getD i .any).isAgg))
    .simp only[cond_false];refine⟨(Nk _ _ _ ah).trans hkl,fun j hj=>?_⟩;rw[<-k3];exact Ks _ _ _ ah _ _
    .simp only[br,beq_iff_eq]at hnk;have hnk:=hnk.1;simp only[cond_true];refine⟨ah,fun j hj=>?_⟩;have:o'=0:=ah;subst this;rw[ay ah];simp
   have hblk:mG C.ν ⟨w',x.I,x.β⟩ b base tot (.buf k es'):=by
    refine⟨hk0,by simp[es'];omega,c',T,fr,s1,ah,fun o'' ho''=>q3 o'' ah,fun i' hi'=>?_⟩;have hi2:i'<(bh m l).length:=by simpa[es']using hi'
    by_cases e:i'=i
    .subst e;have hg:es'.getD i' .any=uV ((bh m l).getD i' .any) k (C.P.cellsOf t) o' (J u).d:=by simp[es',List.getD,List.getElem?_set,hi2]
     rw[hg];refine⟨hel.1,fun j hj=>?_⟩;rw[hel.2 j hj,s3];by_cases hj2:o'<=j/\j<o'+C.P.cellsOf t
     .rw[ay ah,ay hj2,show base+i'*k+j-(base+i'*k+o')=j-o' by omega,cB];have:=c2 (j-o') ah;exact⟨this.1,this.2.mono hle⟩
     .rw[aj ah,aj hj2];exact⟨((q4 i' hi2).2 j hj).1,((q4 i' hi2).2 j hj).2.mono hle⟩
    .have hg:es'.getD i' .any=(bh m l).getD i' .any:=by simp[es',List.getD,List.getElem?_set,show ¬i=i' by omega]
     rw[hg];refine⟨(q4 i' hi2).1,fun j hj=>?_⟩;rw[s3];have hne:¬(base+i*k+o'<=base+i'*k+j/\base+i'*k+j<base+i*k+o'+(ev q).cells.toList.length):=by
      rw[hnl];rcases dQ i' i with hlt|hge
      .have:(i'+1)*k<=i*k:=fg _ hlt;rw[Nat.succ_mul]at this;omega
      .have:(i+1)*k<=i'*k:=fg _ ah;rw[Nat.succ_mul]at this;omega
     rw[aj hne];exact⟨((q4 i' hi2).2 j hj).1,((q4 i' hi2).2 j hj).2.mono hle⟩
   refine⟨undef,⟨w',x.I,x.β⟩,.inr ⟨?_,rfl⟩,hstep,.any _, ?_,fun _ _=>rfl⟩
   .have hsz:(ev q).cells.size=C.P.cellsOf t:=ah;simp[execOp,ho,hep,Instr.storeAt,Instr.sureAddr,storeVar,dN hce,hsz,hat,hst,w']
   .have haf:∀l',ij f ((aG.st (C.P.cellsOf t) s u).wr J L) ((aG.st (C.P.cellsOf t) s u).cr Y J m L) l'=iM f l (some (.buf k es')) l':=by
     intro l';simp only[ij,aG.wr,hd,dk,aG.cr,bJ,cE,iM,es'];by_cases e:l'=l
     .rw[ay e,ay e,ay e]
     .rw[aj e,aj e]
    refine⟨fun l' blk b' base' tot' e1 e2=>?_,fun l1 l2 b' base' tot' base'' tot'' e1 e2 e3 e4=>?_,fun b' hb'=>by show b'<w'.heap.size;rw[f4];exact hs.imm b' hb',fun l' b' base' tot' e=>by show b'<w'.heap.size;rw[f4];exact hs.ek l' b' base' tot' e,og hle hs.gd⟩
    .rw[haf]at e1;by_cases e:l'=l
     .subst e;simp only[iM,aY,aP]at e1;subst e1;have e2':x.β l'=some (b',base',tot'):=e2;rw[hβ]at e2';simp only[aP,dm]at e2';obtain⟨rfl,rfl,rfl⟩:=e2';exact⟨hnI,hblk⟩
     .simp only[iM,e,aS]at e1;obtain⟨a1,a2⟩:=hs.own l' blk b' base' tot' e1 e2;refine⟨a1,a2.mono hle (hother b' (fun eb=>?_))⟩;subst eb;exact e (hs.inj l' l b' base' tot' base tot (by rw[e1];simp) (by rw[g1];simp) e2 hβ)
    .rw[haf]at e1 e2;refine hs.inj l1 l2 b' base' tot' base'' tot'' ?_ ?_ e3 e4
     .by_cases e:l1=l
      .rw[e,g1];simp
      .simpa[iM,e]using e1
     .by_cases e:l2=l
      .rw[e,g1];simp
      .simpa[iM,e]using e2
 .cases hc
end
end
section
variable [di]
section
variable {x:X} {f:Nat->Option bL} {C:CC} {defs:List (Option Nat)} {J:Src->bI} {ev:Operand->Value} {Y:Ctx} {m:List (Nat×bL)} {L:Nat}
def vc (f:Nat->Option bL)(m:List (Nat×bL))(L:Nat)(b:bL):∀l,ij f [L] (cR m L b) l=iM f L (some b) l:=by
 grind [ij,cE,iM]
theorem KS {z:Value}{d:D}{k:Nat}(hz:RD C.ν x z d)(hk:d.cells.length=k)(hk0:k≠0)(n i j:Nat)(hi:i<n)(hj:j<k):
  (((Array.range (n*k)).map (z.cells[· %z.cells.size]!)).getD (i*k+j) undef)=z.cells.getD j undef:=by
 obtain⟨c1,_⟩:=hz.cells ah;have hlt:=iA hi hj;have hm:(i*k+j)%k=j:=by rw[Nat.mul_comm,Nat.mul_add_mod];exact Nat.mod_eq_of_lt hj
 simp[Array.getD,hlt,c1,hk,hm,show j<k from hj]
def Nb {o:Oper}{i:aG}{t:TypeId}{p:Operand}(hc:C.op defs o=some i)(ho:o.op=.range t p)(hρ:pM C defs J ev x o.op.operands.toList)(hob:i.dE Y J m)(hs:eK C.ν x f)(hL:x.β L=none):
  uB C.ν x (ij f (i.wr J L) (i.cr Y J m L)) L (i.val Y J m L) ((execOp ev o).run C.P x.w):=by
 simp only[CC.op,ho]at hc;split at hc
 .rename_i s hu h1;simp only[aP]at hc;subst hc;obtain⟨k1,k2⟩:=hob;have hv:=hρ p (by simp[ho,Op.operands,Call.operands]) s h1 k1;cases hd:(J s).d<;>simp only[hd]at k2;rename_i b;rw[hd]at hv;obtain⟨e1,e2⟩:=hv.ic;have e:(aG.rng s).cr Y J m L=cR m L (.iter b 0):=by simp[aG.cr,hd]
  rw[e];refine mi (tot:=0) (blk:=.iter b 0) hs hL (fU.alloc x.w (.stringIter ⟨⟨b⟩⟩ 0)) bg ⟨ea x.w _,e2⟩ (.it L x.w.heap.size 0 0 (by simp[eu])) ?_ (vc f m L _);simp[execOp,ho,e1,Instr.range,run_underlying hu]
 .cases hc
def UT {o:Oper}{i:aG}{s d:TypeId}{p:Operand}{a:Src}(hc:C.op defs o=some (.s2b a))(ho:o.op=.convert s d p)(hρ:pM C defs J ev x o.op.operands.toList)(hob:(aG.s2b a).dE Y J m)(hs:eK C.ν x f)(hL:x.β L=none):
  uB C.ν x (ij f ((aG.s2b a).wr J L) ((aG.s2b a).cr Y J m L)) L ((aG.s2b a).val Y J m L) ((execOp ev o).run C.P x.w):=by
 simp only[CC.op,ho]at hc;split at hc
 .simp at hc
 .simp at hc
 .rename_i eT a' hu1 hu2 h1;split at hc
  .rename_i hue;simp only[aP,aG.s2b.injEq]at hc;subst hc;obtain⟨k1,k2⟩:=hob;have hv:=hρ p (by simp[ho,Op.operands,Call.operands]) a' h1 k1;cases hd:(J a').d<;>simp only[hd]at k2;rename_i b;rw[hd]at hv;obtain⟨e1,e2⟩:=hv.ic;have e:(aG.s2b a').cr Y J m L=cR m L (.buf 1 (b.map fun q=>.int .u8 q.toNat)):=by simp[aG.cr,hd]
   rw[e];have hsz:(⟨⟨b⟩⟩:ByteArray).size=b.length:=rfl
   let cap:=grownCap x.w b.length 0 eT
   have hcap:b.length<=cap:=grownCap_ge x.w b.length 0 eT;have hcm:cap<=maxLen:=grownCap_le_maxLen x.w b.length 0 eT e2
   let row:=bytesRow ⟨⟨b⟩⟩ cap
   have hrs:row.size=cap:=by simp[row,bytesRow,hsz];show b.length+(cap-b.length)=cap;omega
   have hrun:=run_bytes_of_string (P:=C.P) x.w s d eT ⟨⟨b⟩⟩ hu1 hu2 hue;have hgrow:fU x.w (x.w.drew.alloc (.cells row eT (row.size,row.size+1))):=(fU.drew x.w).trans (fU.alloc x.w.drew _);have hnew:(x.w.drew.alloc (.cells row eT (row.size,row.size+1))).heap[x.w.heap.size]? =some (.cells row eT (row.size,row.size+1)):=ea x.w.drew _;have hget:∀i,i<b.length->row.getD i undef=.int .u8 (b.getD i 0).toNat:=by
    intro i hi;have e3:(b.map fun q=>Value.int .u8 q.toNat).getD i undef=.int .u8 (b.getD i 0).toNat:=by simp[List.getD,hi]
    rw[<-e3,<-cB];simp[row,bytesRow,List.getD,List.getElem?_append,hi]
   refine mi (v:=.slice (some ⟨x.w.heap.size,0,none⟩) b.length cap) (tot:=cap) (blk:=bL.buf 1 (List.map (fun q:UInt8=>D.int .u8 (q.toNat:Int)) b)) hs hL hgrow (by show _<(x.w.heap.push _).size;simp) ?_ ?_ ?_ (vc f m L _)
   .refine rE (w':=x.w) (L:=L) _ hnew ah (by simpa using hcap) ah (fun o' ho'=>dH) (fun i hi=>?_);simp only[bc]at hi;have hg:(b.map fun q=>D.int .u8 q.toNat).getD i .any=.int .u8 (b.getD i 0).toNat:=by simp[List.getD,hi]
    rw[hg];refine⟨rfl,fun j hj=>?_⟩;have:j=0:=ah;subst this;rw[show i*1+0=i by omega,hget i hi];exact⟨rfl,.int _ _⟩
   .simp only[aG.val,hd];exact .own L 1 0 b.length x.w.heap.size 0 cap cap ⟨x.w.heap.size,0,none⟩ (by simp[eu]) (fun _=>bg) hcap hcm ah
   .simp only[execOp,ho,e1,Sem.run_bind,hrun,Result.andThen_ok,Sem.run_pure];rfl
  .cases hc
 .split at hc
  .simp at hc
  .cases hc
 .cases hc
def UN {o:Oper}{s d:TypeId}{p:Operand}{a:Src}(hc:C.op defs o=some (.b2s a))(ho:o.op=.convert s d p)(hρ:pM C defs J ev x o.op.operands.toList)(hob:(aG.b2s a).dE Y J m)(hs:eK C.ν x f)(hag:yQ f m ((aG.b2s a).kY J)):
  uB C.ν x (ij f ((aG.b2s a).wr J L) ((aG.b2s a).cr Y J m L)) L ((aG.b2s a).val Y J m L) ((execOp ev o).run C.P x.w):=by
 have haf:ij f ((aG.b2s a).wr J L) ((aG.b2s a).cr Y J m L)=f:=by funext l;simp[ij,aG.wr]
 rw[haf];simp only[CC.op,ho]at hc;split at hc
 .simp at hc
 .simp at hc
 .split at hc
  .simp at hc
  .cases hc
 .rename_i eT a' hu1 hu2 h1;split at hc
  .rename_i hue;simp only[aP,aG.b2s.injEq]at hc;subst hc;obtain⟨k1,k2,k3,k4⟩:=hob;have hv:=hρ p (by simp[ho,Op.operands,Call.operands]) a' h1 k1;have hd1:C.P.underlying d=some .string:=hu2;have hconv:∀b l c,ev p=.slice b l c->(execOp ev o).run C.P x.w=((Conv.bytesToString (.slice b l c)).run C.P x.w).andThen fun v w'=>.ok (.value v) w':=by
    intro b l c he;simp only[execOp,ho,he,Sem.run_bind,run_convert_bytes_string x.w s d eT b l c hu1 hue hu2,Sem.run_pure]
   have key:∀(aa:Addr) (len cap:Nat) (es:List D),es.length=len->(∀e∈es,e.J0)->len<=maxLen->(∀i,i<len->∃v,x.w.cell? ⟨aa.block,aa.off+i,none⟩=some v/\RD C.ν x v (es.getD i .any))->(0<len->aa.spot=none)->
     ev p=.slice (some aa) len cap->uB C.ν x f L (.str (es.map D.u8)) ((execOp ev o).run C.P x.w):=by
    intro aa len cap es hlen hu8 hm hcell hspot he;have hv':∀i,i<len->∃n,es.getD i .any=.int .u8 n/\0<=n/\n<256:=by
     intro i hi;have hmem:=hu8 (es.getD i .any) (by rw[nR _ _ _ ah];exact List.getElem_mem _);cases hg:es.getD i .any<;>simp only[hg,D.J0]at hmem;obtain⟨rfl,h1,h2⟩:=hmem;exact⟨_,rfl,h1,h2⟩
    let ns:List Int:=es.map fun e=>match e with| .int _ n=>n|_=>0
    have hload:(loadCells aa len).run C.P x.w=.ok (ns.map (Value.int .u8)).toArray x.w:=by
     have:=run_loadCells (P:=C.P) x.w aa len (fun j=>.int .u8 (ns.getD j 0)) (fun j hj=>by
      obtain⟨v,c1,c2⟩:=hcell j hj;obtain⟨n,g1,_,_⟩:=hv' j hj;have hn:ns.getD j 0=n:=by
       rw[nR _ _ _ ah]at g1;simp[ns,List.getD,show j<es.length by omega,g1]
      rw[hn];rw[g1]at c2;rw[<-c2.dK,<-c1];have hsp:=hspot ah;congr 1;obtain⟨ab,ao,amf⟩:=aa;simp only at hsp;subst hsp;rw[Addr.uC])
     rw[this];congr 2;apply List.ext_getElem
     .simp[ns,hlen]
     .intro i h1 h2;simp at h1 h2;simp[List.getD,ns,show i<es.length by omega]
    refine lG hs (v:=.string ⟨⟨es.map D.u8⟩⟩) ?_ (.str _ dH);rw[hconv _ _ _ he,run_bytesToString x.w aa len cap ns hload];simp only[Result.andThen_ok];congr 3;have hfold:∀(l:List Int) (s0:ByteArray),l.foldl (fun r n=>r.push (UInt8.ofNat n.toNat)) s0=⟨⟨s0.data.toList++l.map fun n=>UInt8.ofNat n.toNat⟩⟩:=by
     intro l;induction l with
     |nil=>intro s0;simp
     |cons n r ih=>
      intro s0;rw[List.foldl_cons,ih];congr 2;simp[ByteArray.push]
    rw[hfold];have e0:(ByteArray.empty.data.toList:List UInt8)=[]:=rfl;rw[e0,fQ];congr 2;simp only[ns,List.map_map];apply List.map_congr_left;intro e he';have:=hu8 e he';cases e<;>simp only[D.J0]at this;rfl
   cases hd:(J a').d<;>simp only[hd,wP]at k2 k3 k4
   ·
    rw[hd]at hv;simp only[aG.val,hd,nO,List.map_nil];generalize hep:ev p=vp at hv;cases hv;refine lG hs (v:=.string ⟨⟨[]⟩⟩) ?_ (.str _ bg);rw[hconv _ _ _ hep];rfl
   .rename_i k es;rw[hd]at hv;simp only[aG.val,hd,nO];simp only[nO]at k4;subst k3;generalize hep:ev p=vp at hv;cases hv with
    |sl aa b off len cap _ _ c hlen ha hcap hm hk hn hcc hone hh=>
     by_cases he0:es=[]
     .subst he0;simp at hlen;subst hlen;refine lG hs (v:=.string ⟨⟨[]⟩⟩) ?_ (.str _ bg);rw[hconv _ _ _ hep];cases aa with
      |none=>rfl
      |some aa=>
       rw[run_bytesToString x.w aa 0 cap [] (by simp[loadCells,loadCellsFrom])];rfl
     .rcases ha with h|⟨rfl,hI⟩
      .exact absurd h he0
      .refine key _ len cap es hlen.symm k4 ah (fun i hi=>⟨c i 0,by have:=hcc i 0 hi ah;simpa using this, ?_⟩) (fun _=>rfl) hep;have:=hh i 0 hi ah;have hk1:=hk i hi;cases hg:es.getD i .any<;>rw[hg]at this hk1<;>simp only[D.cells,aX,aT]at hk1 this<;>first|omega|exact this|skip
       rename_i cs;have hmem:=k4 (es.getD i .any) (by rw[nR _ _ _ ah];exact List.getElem_mem _);rw[hg]at hmem;simp[D.J0]at hmem
   .rename_i l k i n;rw[hd]at hv;simp only[aG.val,hd,nO];simp only[nO]at k4;obtain⟨k5,k6⟩:=k3;subst k5;generalize hep:ev p=vp at hv;cases hv with
    |own _ _ _ _ b base tot cap aa hβ ha hcap hm ht=>
     obtain⟨g1,g2,g3⟩:=qD hs (hag l (by simp[hd,dk])) k6;obtain⟨hnI,hk0,ht',c,T,fr,q1,q2,q3,q4⟩:=hs.own l _ b base tot g1 hβ;have hlen:(((bh m l).drop i).take n).length=n:=gr _ _ _ g2;refine key aa n cap _ hlen k4 ah (fun j hj=>?_) (fun h=>by rw[ha ah]) hep;have ha':=ha ah;subst ha';have hij:i+j<(bh m l).length:=ah;refine⟨c.getD (base+(i+j)*1+0) undef, ?_, ?_⟩
     .rw[show base+i*1+j=base+(i+j)*1+0 by omega];exact cell_of_heap q1 ah
     .rw[ef _ _ _ _ _ hj];have:=((q4 (i+j) hij).2 0 ah).2;have hk1:=(q4 (i+j) hij).1;cases hg:(bh m l).getD (i+j) .any<;>rw[hg]at this hk1<;>simp only[D.cells,aX,aT]at hk1 this<;>first|omega|exact this|skip
      rename_i cs;have hmem:=k4 ((((bh m l).drop i).take n).getD j .any) (by rw[nR _ _ _ ah];exact List.getElem_mem _);rw[ef _ _ _ _ _ hj,hg]at hmem;simp[D.J0]at hmem
    |own0 _ _ _ a0=>
     simp only[List.take_zero,List.map_nil];refine lG hs (v:=.string ⟨⟨[]⟩⟩) ?_ (.str _ bg);rw[hconv _ _ _ hep];cases a0<;>rfl
  .cases hc
 .cases hc
def Qw {o:Oper}{i:aG}{p:Operand}(hc:C.op defs o=some i)(ho:o.op=.next p true)(hρ:pM C defs J ev x o.op.operands.toList)(hob:i.dE Y J m)(hs:eK C.ν x f)(hag:yQ f m (i.kY J)):
  uB C.ν x (ij f (i.wr J L) (i.cr Y J m L)) L (i.val Y J m L) ((execOp ev o).run C.P x.w):=by
 simp only[CC.op,ho,cS]at hc;obtain⟨s,h1,rfl⟩:=hc;obtain⟨k1,k2⟩:=hob;have hv:=hρ p (by simp[ho,Op.operands,Call.operands]) s h1 k1;cases hd:(J s).d<;>simp only[hd]at k2;rename_i l;rw[hd]at hv;cases hl:look m l with
 |none=>simp[hl]at k2
 |some blk=>
  cases blk with
  |buf k es=>simp[hl]at k2
  |row s=>simp[hl]at k2
  |bld o n u=>simp[hl]at k2
  |mpb s=>simp[hl]at k2
  |iter b pos=>
   have hfl:f l=some (.iter b pos):=by rw[<-hl];exact hag l (by simp[hd,dk])
   generalize hep:ev p=vp at hv;cases hv with
   |it _ bb base tot hβ=>
    obtain⟨hnI,hb1,pe⟩:=hs.own l _ bb base tot hfl hβ;have hlt:=hs.ek l bb base tot hβ;by_cases hp:pos<b.length
    .have hsz:(⟨⟨b⟩⟩:ByteArray).size=b.length:=rfl
     let w':World:={x.w with heap:=x.w.heap.setIfInBounds bb (.stringIter ⟨⟨b⟩⟩ (pos+(sR b pos).2))}
     have hother:∀b',b'≠bb->w'.heap[b']? =x.w.heap[b']? :=fun b' hb'=>by simp[w',Array.getElem?_setIfInBounds,show ¬bb=b' by omega]
     have hhere:w'.heap[bb]? =some (.stringIter ⟨⟨b⟩⟩ (pos+(sR b pos).2)):=by simp[w',hlt]
     have hsize:w'.heap.size=x.w.heap.size:=by simp[w']
     have hstep:Step x ⟨w',x.I,x.β⟩:=
      ⟨rfl,rfl,rfl,by show _<=w'.heap.size;omega,fun _ h=>h,fun b' hb'=>hother b' (fun e=>hnI (e▸hb')),fun _ _ h=>h,fun b' _ hn=>hother b' (fun e=>hn l _ hβ e.symm),fun _ h=>.inl h,fun _ _ h=>.inl h⟩
     have haf:∀l',ij f ((aG.au s).wr J L) ((aG.au s).cr Y J m L) l'=iM f l (some (.iter b (pos+(sR b pos).2))) l':=by
      intro l';simp only[ij,aG.wr,hd,dk,aG.cr,hl,hp,decide_true,cond_true,bJ,cE,iM];by_cases e:l'=l
      .rw[ay e,ay e,ay e]
      .rw[aj e,aj e]
     refine⟨.tuple #[.bool true,.int .i64 pos,.int .i32 (sR b pos).1],⟨w',x.I,x.β⟩,.inl ?_,hstep, ?_, ?_,fun _ _=>rfl⟩
     .have hobj:(getObj bb).run C.P x.w=.ok (.stringIter ⟨⟨b⟩⟩ pos) x.w:=by simp[getObj,Sem.run,hb1]
      have hset:∀ob:Obj,(setObj bb ob).run C.P x.w=.ok () {x.w with heap:=x.w.heap.setIfInBounds bb ob}:=by intro ob;simp[setObj,Sem.run,hb1]
      simp[execOp,ho,hep,Instr.next,hobj,hsz,hp,hset,goInt,sR,w']
     .simp only[aG.val,hd,hl,hp,decide_true,cond_true];refine .tup _ _ bg (fun i hi=>?_);simp at hi
      match i,hi with
      |0,_=>simpa using RD.bool true
      |1,_=>simpa using RD.int .i64 pos
      |2,_=>simpa using RD.int .i32 (sR b pos).1
     .refine⟨fun l' blk b' base' tot' e1 e2=>?_,fun l1 l2 b' base' tot' base'' tot'' e1 e2 e3 e4=>?_,fun b' hb'=>by show b'<w'.heap.size;rw[hsize];exact hs.imm b' hb',fun l' b' base' tot' e=>by show b'<w'.heap.size;rw[hsize];exact hs.ek l' b' base' tot' e,og hstep.le hs.gd⟩
      .rw[haf]at e1;by_cases e:l'=l
       .subst e;simp only[iM,aY,aP]at e1;subst e1;have e2':x.β l'=some (b',base',tot'):=e2;rw[hβ]at e2';simp only[aP,dm]at e2';obtain⟨rfl,rfl,rfl⟩:=e2';exact⟨hnI,hhere,pe⟩
       .simp only[iM,e,aS]at e1;obtain⟨a1,a2⟩:=hs.own l' blk b' base' tot' e1 e2;refine⟨a1,a2.mono hstep.le (hother b' (fun eb=>?_))⟩;subst eb;exact e (hs.inj l' l b' base' tot' base tot (by rw[e1];simp) (by rw[hfl];simp) e2 hβ)
      .rw[haf]at e1 e2;refine hs.inj l1 l2 b' base' tot' base'' tot'' ?_ ?_ e3 e4
       .by_cases e:l1=l
        .rw[e,hfl];simp
        .simpa[iM,e]using e1
       .by_cases e:l2=l
        .rw[e,hfl];simp
        .simpa[iM,e]using e2
    .have haf:ij f ((aG.au s).wr J L) ((aG.au s).cr Y J m L)=f:=by
      funext l';simp only[ij,aG.wr,hd,dk,aG.cr,hl,hp,decide_false,cond_false,bJ];by_cases e:l'=l
      .rw[ay e,e,hl,hfl]
      .rw[aj e]
     rw[haf];refine lG hs (v:=.tuple #[.bool false]) ?_ ?_
     .have hsz:(⟨⟨b⟩⟩:ByteArray).size=b.length:=rfl;have hobj:(getObj bb).run C.P x.w=.ok (.stringIter ⟨⟨b⟩⟩ pos) x.w:=by simp[getObj,Sem.run,hb1]
      simp[execOp,ho,hep,Instr.next,hobj,hsz,hp]
     .simp only[aG.val,hd,hl,hp,decide_false,cond_false];refine .tup _ _ bg (fun i hi=>?_);simp at hi;subst hi;simpa using RD.bool false
def tX {k n:Nat}{os':List Operand}(hρ:pM C defs J ev x os')(hk0:k≠0):∀(ps:List (Nat×Operand)) (ss:List (Nat×Src)),(∀p∈ps,p.2∈os')->C.tu defs ps=some ss->mH J k n ss->
  ∀(cs:Array Value) (es:List D),cs.size=n*k->es.length=n->
   (∀i,i<n->(es.getD i .any).cells.length=k/\∀j,j<k->(cs.getD (i*k+j) undef).oneCell'=true/\RD C.ν x (cs.getD (i*k+j) undef) ((es.getD i .any).cells.getD j .any))->
  ∃cs',Instr.fill (fun i=>some (i*k,k)) cs (ps.map fun(i,o)=>(i,ev o))=some cs'/\cs'.size=n*k/\(kr J es ss).length=n/\
   ∀i,i<n->((kr J es ss).getD i .any).cells.length=k/\∀j,j<k->(cs'.getD (i*k+j) undef).oneCell'=true/\RD C.ν x (cs'.getD (i*k+j) undef) (((kr J es ss).getD i .any).cells.getD j .any)
 |[],ss,_,h,_,cs,es,h1,h2,h3=>by simp[CC.tu]at h;subst h;exact⟨cs,by simp[Instr.fill],h1,by simpa[kr]using h2,by simpa[kr]using h3⟩
 |(i,o)::r,ss,hm,h,hk,cs,es,h1,h2,h3=>by
  simp only[CC.tu]at h;split at h
  .rename_i s l g1 g2;simp only[aP]at h;subst h;simp only[mH]at hk;obtain⟨k1,k2,k3,k4⟩:=hk;have hv:=hρ o (hm _ (.head _)) s g1 k2;obtain⟨c1,c2⟩:=hv.cells ah;have hsz:(ev o).cells.size=k:=ah;have hb:i*k+k<=n*k:=by rw[<-Nat.succ_mul];exact fg _ k1
   obtain⟨f1,f2⟩:=wW (i*k) (ev o).cells.toList 0 cs dH
   let cs1:Array Value:=((ev o).cells.toList.zipIdx 0).foldl (fun cs (c,j)=>cs.setIfInBounds (i*k+j) c) cs
   have hcs1:(ev o).cells.zipIdx.foldl (fun cs (c,j)=>cs.setIfInBounds (i*k+j) c) cs=cs1:=by
    rw[<-Array.foldl_toList];simp[cs1]
   have hget:∀q,cs1.getD q undef=if i*k<=q/\q<i*k+k then(ev o).cells.getD (q-i*k) undef else cs.getD q undef:=by
    intro q;have:=f2 q;rw[<-cB,<-cB cs,<-cB (ev o).cells];simp only[List.getD,Array.getElem?_toList];rw[show cs1[q]? =_ from this];simp only[Array.length_toList,hsz,Nat.add_zero];split
    .simp
    .rfl
   have hel:∀i',i'<n->((es.set i (J s).d).getD i' .any)=if i'=i then(J s).d else es.getD i' .any:=by
    intro i' hi';by_cases e:i'=i
    .subst e;simp[List.getD,List.getElem?_set,show i'<es.length by omega]
    .simp[List.getD,List.getElem?_set,show ¬i=i' by omega,e]
   obtain⟨cs',r1,r2,r3,r4⟩:=tX hρ hk0 r l (fun p hp=>hm p (.tail _ hp)) g2 k4 cs1 (es.set i (J s).d) (f1.trans h1) (by simpa using h2) (fun i' hi'=>by
    rw[hel i' hi'];by_cases e:i'=i
    .subst e;rw[ay rfl];refine⟨k3,fun j hj=>?_⟩;rw[hget,ay ah,show i'*k+j-i'*k=j by omega];exact c2 j ah
    .rw[aj e];refine⟨(h3 i' hi').1,fun j hj=>?_⟩;have hne:¬(i*k<=i'*k+j/\i'*k+j<i*k+k):=by
      rcases dQ i' i with hlt|hge
      .have:(i'+1)*k<=i*k:=fg _ hlt;rw[Nat.succ_mul]at this;omega
      .have:(i+1)*k<=i'*k:=fg _ ah;rw[Nat.succ_mul]at this;omega
     rw[hget,aj hne];exact(h3 i' hi').2 j hj)
   refine⟨cs', ?_,r2,by simpa[kr]using r3,by simpa[kr]using r4⟩;simp only[List.map_cons,Instr.fill];rw[aj (by simp[hsz];omega),hcs1];exact r1
  .cases h
def Ab {z:Value}{d:D}{k n:Nat}(hz:RD C.ν x z d)(hk:d.cells.length=k)(hk0:k≠0):
  ∀i,i<n->((List.replicate n d).getD i .any).cells.length=k/\∀j,j<k->(((Array.range (n*k)).map (z.cells[· %z.cells.size]!)).getD (i*k+j) undef).oneCell'=true/\RD C.ν x (((Array.range (n*k)).map (z.cells[· %z.cells.size]!)).getD (i*k+j) undef) (((List.replicate n d).getD i .any).cells.getD j .any):=by
 intro i hi;obtain⟨_,c2⟩:=hz.cells ah
 grind [KS]
def UO {o:Oper}{i:aG}{t:TypeId}{n:Nat}{ps:Array (Nat×Operand)}(hc:C.op defs o=some i)(ho:o.op=.buildSlice t n ps)(hρ:pM C defs J ev x o.op.operands.toList)(hob:i.dE Y J m)(hs:eK C.ν x f)(hL:x.β L=none):
  uB C.ν x (ij f (i.wr J L) (i.cr Y J m L)) L (i.val Y J m L) ((execOp ev o).run C.P x.w):=by
 simp only[CC.op,ho]at hc;split at hc
 .rename_i e hu;split at hc
  .rename_i z l hz h1;split at hc
   .cases hc
   rename_i hce;simp only[aP]at hc;subst hc;obtain⟨k1,k2⟩:=hob;obtain⟨ti,v,hi,hzv,hr⟩:=j5 (x:=x) hz;have hce0:C.P.cellsOf e≠0:=fun h=>hce (.inl h)
   have hsz:ti.size=C.P.cellsOf e:=by simp[Program.cellsOf,hi]
   have hsmall:¬n*ti.size>2^24:=fun h=>hce (.inr (by rw[hsz]at h;simpa using h))
   obtain⟨cs',r1,r2,r3,r4⟩:=tX hρ hce0 ps.toList l (fun p hp=>by simp only[ho,Op.operands,fF];exact⟨p,hp,rfl⟩) h1 k2 ((Array.range (n*C.P.cellsOf e)).map (v.cells[· %v.cells.size]!)) (List.replicate n z) bg bg (Ab hr k1 hce0);have hgrow:=fU.alloc x.w (.cells cs' e);have hle:=Bh (tot:=n) hs hgrow hL;have he:(aG.bsl (C.P.cellsOf e) z n l).cr Y J m L=cR m L (bL.buf (C.P.cellsOf e) (kr J (List.replicate n z) l)):=rfl;rw[he];have hrun:(Instr.buildSlice t n (ps.map fun(i,x)=>(i,ev x))).run C.P x.w=.ok (.slice (some ⟨x.w.heap.size,0,none⟩) n n) (x.w.alloc (.cells cs' e)):=by
    by_cases hn:n=0
    .subst hn;have hcs0:cs'=#[]:=Array.eq_empty_of_size_eq_zero (by simpa using r2);have hps:ps.toList=[]:=by
      cases hp:ps.toList with
      |nil=>rfl
      |cons q r=>
       rw[hp]at h1;obtain⟨i0,o0⟩:=q;simp only[CC.tu]at h1;split at h1
       .rename_i s' l' _ _;simp only[aP]at h1;subst h1;simp[mH]at k2
       .cases h1
     have hps':ps=#[]:=by apply Array.ext';simpa using hps
     subst hps';simp[Instr.buildSlice,run_underlying hu,sizeOf,typeInfo,hi,Instr.fill,newRow,hcs0,show Array.range 0=#[]from rfl]
    .refine run_buildSlice x.w t e n _ cs' ti v hu hi hzv hsmall ?_ ?_
     .rw[hsz];intro h0;rcases Nat.mul_eq_zero.1 h0 with h|h
      .exact hn h
      .exact hce0 h
     .rw[hsz,Array.toList_map];exact r1
   refine mi (v:=.slice (some ⟨x.w.heap.size,0,none⟩) n n) (tot:=n) (blk:=bL.buf (C.P.cellsOf e) (kr J (List.replicate n z) l)) hs hL hgrow bg ?_ ?_ ?_ (vc f m L _)
   .exact rE (w':=x.w) (L:=L) _ (ea x.w _) ah ah ah (fun o' _=>bg) (fun i hi=>⟨(r4 i ah).1,fun j hj=>⟨((r4 i ah).2 j hj).1,((r4 i ah).2 j hj).2.mono hle⟩⟩)
   .exact .own L (C.P.cellsOf e) 0 n x.w.heap.size 0 n n ⟨x.w.heap.size,0,none⟩ (by simp[eu]) (fun _=>bg) (aM _) (by have:n*1<=n*C.P.cellsOf e:=Nat.mul_le_mul_left _ ah;have h3:¬n*C.P.cellsOf e>16777216:=fun h=>hce (.inr h);simp only[maxLen];omega) ah
   .simp only[execOp,ho,Sem.run_bind,hrun,Result.andThen_ok,Sem.run_pure]
  .cases hc
 .cases hc
def UR {o:Oper}{i:aG}{t:TypeId}{p q:Operand}(hc:C.op defs o=some i)(ho:o.op=.makeSlice t p q)(hρ:pM C defs J ev x o.op.operands.toList)(hob:i.dE Y J m)(hs:eK C.ν x f)(hL:x.β L=none):
  uB C.ν x (ij f (i.wr J L) (i.cr Y J m L)) L (i.val Y J m L) ((execOp ev o).run C.P x.w):=by
 simp only[CC.op,ho]at hc;split at hc
 .rename_i e hu;split at hc
  .rename_i z ln cp hz h1 h2;split at hc
   .cases hc
   rename_i hce;simp only[aP]at hc;subst hc;obtain⟨k1,k2,k3,k4⟩:=hob;have hv:=hρ p (by simp[ho,Op.operands,Call.operands]) ln h1 k1;have hw:=hρ q (by simp[ho,Op.operands,Call.operands]) cp h2 k2;cases hd:(J ln).d<;>cases hd2:(J cp).d<;>simp only[hd,hd2]at k4;rename_i kk n kk' c;rw[hd]at hv;rw[hd2]at hw;obtain⟨ti,v,hi,hzv,hr⟩:=j5 (x:=x) hz;have hce0:C.P.cellsOf e≠0:=fun h=>hce (.inl h)
   have hsz:ti.size=C.P.cellsOf e:=by simp[Program.cellsOf,hi]
   have hby:ti.bytes<=65536:=by
    have:¬C.P.bytesOf e>65536:=fun h=>hce (.inr h)
    simp[Program.bytesOf,hi]at this;omega
   have hbytes:(ti.bytes:Int)*c<=281474976710656:=by
    have h1:(ti.bytes:Int)*c<=65536*c:=Int.mul_le_mul_of_nonneg_right ah ah;have h2:(65536:Int)*c<=65536*1073741824:=Int.mul_le_mul_of_nonneg_left ah ah;omega
   have hrun:=run_make (P:=C.P) x.w t e ti v hu hi hzv kk kk' n c k4.1 k4.2.1 hbytes ah;rw[hsz]at hrun;have hgrow:=fU.alloc x.w (.cells (madeCells v.cells (c.toNat*C.P.cellsOf e)) e);have hle:=Bh (tot:=c.toNat) hs hgrow hL;have hrep:=Ab (n:=c.toNat) hr k3 hce0;have hms:(madeCells v.cells (c.toNat*C.P.cellsOf e)).size=c.toNat*C.P.cellsOf e:=size_madeCells _ _;have he:(aG.mks (C.P.cellsOf e) z ln cp).cr Y J m L=cR m L (.buf (C.P.cellsOf e) (List.replicate n.toNat z)):=by simp[aG.cr,hd,D.nat]
   rw[he];refine mi (v:=.slice (some ⟨x.w.heap.size,0,none⟩) n.toNat c.toNat) (tot:=c.toNat) (blk:=.buf (C.P.cellsOf e) (List.replicate n.toNat z)) hs hL hgrow bg ?_ ?_ ?_ (vc f m L _)
   .refine rE (w':=x.w) (L:=L) _ (ea x.w _) ah dH ah (fun o' _=>bg) (fun i hi=>?_);simp only[List.length_replicate]at hi;have:=hrep i ah;have e1:(List.replicate n.toNat z).getD i .any=(List.replicate c.toNat z).getD i .any:=by simp[List.getD,hi,show i<c.toNat by omega]
    rw[e1];refine⟨this.1,fun j hj=>?_⟩;have h2:=this.2 j hj;have e2:(Array.range (c.toNat*C.P.cellsOf e)).map (v.cells[· %v.cells.size]!)=madeCells v.cells (c.toNat*C.P.cellsOf e):=rfl;rw[e2]at h2;exact⟨h2.1,h2.2.mono hle⟩
   .simp only[aG.val,hd,D.nat];exact .own L _ 0 n.toNat x.w.heap.size 0 c.toNat c.toNat ⟨x.w.heap.size,0,none⟩ (by simp[eu]) (fun _=>bg) ah (by simp only[maxLen];omega) ah
   .simp only[execOp,ho,hv.dK,hw.dK,Sem.run_bind,hrun,Result.andThen_ok,Sem.run_pure]
  .cases hc
 .cases hc
end
end
section
variable [di]
def MM {P:Program}{k:TypeId}(h:Fy P k=true):∃e,WideMaps.ArrKey P k e 2/\P.underlying e=some .string/\∃m,P.types.size=m+1:=by
 unfold Fy at h;split at h
 .rename_i e hk;split at h
  .rename_i he;simp only[br,beq_iff_eq,cW,beq_eq_false_iff_ne]at h;exact⟨e,⟨hk,by unfold Program.plainKey;rw[he],h.1,h.2.1⟩,he,P.types.size-1,ah⟩
  .cases h
 .cases h
def J2 {P:Program}{k e:TypeId}(A:WideMaps.ArrKey P k e 2)(he:P.underlying e=some .string)(hsz:∃m,P.types.size=m+1){a b:List UInt8}(wa:a.length<=maxLen)(wb:b.length<=maxLen):
  keyOf P k (.agg #[.string ⟨⟨a⟩⟩,.string ⟨⟨b⟩⟩])=some (.string (keyBytes [.string a,.string b])):=by
 have hkt:=A.keyType hsz;obtain⟨m,hm⟩:=hsz;unfold keyOf;simp only[A.hu];rw[ay (by simp[hkt,Value.formed,A.hu,A.size]),hm];unfold Program.keyLits;simp only[A.hu,Value.cells];rw[ay (by rw[A.size];rfl),show List.range 2=[0,1]from rfl,List.mapM_cons,List.mapM_cons,List.mapM_nil];simp[A.one,Program.keyLits,he,ByteArray.size,wa,wb]
def RD.key {ν:List (Nat×Nat)}{x:X}{v:Value}{d:D}(h:RD ν x v d)(hk:qQ d=true):∃a b,d=.agg [.str a,.str b]/\v=.agg #[.string ⟨⟨a⟩⟩,.string ⟨⟨b⟩⟩]/\a.length<=maxLen/\b.length<=maxLen:=by
 unfold qQ at hk;split at hk
 .rename_i a b;refine⟨a,b,rfl, ?_⟩;cases h with
  |agg cs ds hl h1 h=>
   have e0:=h 0 bg;have e1:=h 1 bg;simp only[gB,List.getD_cons_succ]at e0 e1;have hl2:cs.size=2:=hl;generalize hq:cs.getD 0 undef=q at e0;generalize hq2:cs.getD 1 undef=q2 at e1;cases e0 with
   |str _ ha=>
    cases e1 with
    |str _ hb=>
     refine⟨?_,ha,hb⟩;congr 1;apply Array.ext
     .simpa using hl2
     .intro i hi1 hi2;have hi:i=0\/i=1:=ah;rcases hi with rfl|rfl
      .simp[Array.getD,hi1]at hq;simpa using hq
      .simp[Array.getD,hi1]at hq2;simpa using hq2
 .cases hk
def lO (e:MapEntry)(es:List MapEntry)(j:Nat):Bp (e::es) (j+2)=Bp es j:=by
 unfold Bp;rw[show(j+2) /2=j/2+1 by omega,List.getElem?_cons_succ,show(j+2)%2=j%2 by omega]
def Bf {ν:List (Nat×Nat)}{x:X}{v w:Value}{d e:D}(h1:RD ν x v d)(h2:RD ν x w e)(k1:qQ d=true)(k2:qQ e=true):m7 d e=true↔v=w:=by
 obtain⟨a,b,rfl,rfl,_,_⟩:=h1.key k1;obtain⟨a',b',rfl,rfl,_,_⟩:=h2.key k2;simp only[m7,br,beq_iff_eq];constructor
 .rintro⟨rfl,rfl⟩;rfl
 .intro h;injection h with h
  have h3:=aC Array.toList h;simp only[pJ,Value.string.injEq,bW]at h3;obtain⟨p,q⟩:=h3;injection p with p;injection p with p
  injection q with q;injection q with q
  exact⟨p,q⟩
section
variable {ν:List (Nat×Nat)} {x:X} {key:Value} {k:D}
def Hy (hk:RD ν x key k)(hb:qQ k=true):∀(es:List MapEntry) (kvs:List D),sb kvs=true->2*es.length=kvs.length->(∀j,j<kvs.length->RD ν x (Bp es j) (kvs.getD j .any))->
  ((∀e∈es,e.key≠key)->EV k kvs=none)/\∀e∈es,e.key=key->(es.map (·.key)).Nodup->∃v,EV k kvs=some v/\RD ν x e.val v
 |[],[],_,_,_=>⟨fun _=>rfl,fun e he=>by cases he⟩
 |e::es,a::v::r,ho,hl,h=>by
  simp only[sb,br]at ho;have h0:RD ν x e.key a:=h 0 bg;have h1:RD ν x e.val v:=h 1 bg;obtain⟨i1,i2⟩:=Hy hk hb es r ho.2 (by simp only[aT]at hl;omega) fun j hj=>by
   have:=h (j+2) (by simp only[aT];omega);rw[lO]at this;simpa using this
  have he:=Bf h0 hk ho.1 hb;constructor
  .intro hn;have:m7 a k=false:=by
    cases q:m7 a k with
    |false=>rfl
    |true=>exact absurd (he.1 q) (hn e (.head _))
   simp only[EV,this,cond_false];exact i1 fun e' h'=>hn e' (.tail _ h')
  .intro e' h' hkey hnd;simp only[List.map_cons,List.nodup_cons]at hnd;rcases cM.1 h' with rfl|h'
   .simp only[EV,he.2 hkey,cond_true];exact⟨v,rfl,h1⟩
   .have:m7 a k=false:=by
     cases q:m7 a k with
     |false=>rfl
     |true=>exact absurd (fF.2 ⟨e',h',hkey.trans (he.1 q).symm⟩) hnd.1
    simp only[EV,this,cond_false];exact i2 e' h' hkey hnd.2
 |_::_,[],_,hl,_=>by simp at hl
 |[],_::_,_,hl,_=>by simp at hl
 |_::es,[_],ho,hl,_=>by simp at hl;omega
def Hz (hk:RD ν x key k)(hb:qQ k=true){val:Value}{d:D}(cl:Nat)(hv:RD ν x val d):∀(es:List MapEntry) (kvs:List D),sb kvs=true->2*es.length=kvs.length->(∀j,j<kvs.length->RD ν x (Bp es j) (kvs.getD j .any))->(∀e∈es,e.key≠key)->
  ud k d kvs=kvs++[k,d]/\∀j,j<(kvs++[k,d]).length->RD ν x (Bp (es++[⟨key,val,cl⟩]) j) ((kvs++[k,d]).getD j .any)
 |[],[],_,_,_,_=>⟨rfl,fun j hj=>by
   have:j=0\/j=1:=by simp at hj;omega
   rcases this with rfl|rfl
   .exact hk
   .exact hv⟩
 |e::es,a::v::r,ho,hl,h,hn=>by
  simp only[sb,br]at ho;have h0:RD ν x e.key a:=h 0 bg;have h1:RD ν x e.val v:=h 1 bg;obtain⟨i1,i2⟩:=Hz hk hb cl hv es r ho.2 (by simp only[aT]at hl;omega) (fun j hj=>by
   have:=h (j+2) (by simp only[aT];omega);rw[lO]at this;simpa using this) fun e' h'=>hn e' (.tail _ h')
  have he:=Bf h0 hk ho.1 hb;have:m7 a k=false:=by
   cases q:m7 a k with
   |false=>rfl
   |true=>exact absurd (he.1 q) (hn e (.head _))
  refine⟨by simp only[ud,this,cond_false,i1];rfl,fun j hj=>?_⟩
  match j,hj with
  |0,_=>exact h0
  |1,_=>exact h1
  |j+2,hj=>
   have:=i2 j (by simp only[bS,aT,aX]at hj⊢;omega);rw[<-lO e]at this;simpa using this
 |_::_,[],_,hl,_,_=>by simp at hl
 |[],_::_,_,hl,_,_=>by simp at hl
 |_::es,[_],ho,hl,_,_=>by simp at hl;omega
def M0 (hk:RD ν x key k)(hb:qQ k=true){val:Value}{d:D}(hv:RD ν x val d):∀(es:List MapEntry) (kvs:List D) (i:Nat) (e:MapEntry),sb kvs=true->2*es.length=kvs.length->(∀j,j<kvs.length->RD ν x (Bp es j) (kvs.getD j .any))->(es.map (·.key)).Nodup->es[i]? =some e->e.key=key->
  (ud k d kvs).length=kvs.length/\∀j,j<kvs.length->RD ν x (Bp (es.modify i fun e=>{e with key:=key,val:=val}) j) ((ud k d kvs).getD j .any)
 |[],_,i,e,_,_,_,_,hi,_=>by simp at hi
 |e0::es,a::v::r,0,e,ho,hl,h,hnd,hi,hkey=>by
  simp only[sb,br]at ho;obtain rfl:e0=e:=by simpa using hi
  have h0:RD ν x e0.key a:=h 0 bg;have he:=(Bf h0 hk ho.1 hb).2 hkey;refine⟨by simp only[ud,he,cond_true];rfl,fun j hj=>?_⟩;simp only[ud,he,cond_true]
  match j,hj with
  |0,_=>rw[hkey]at h0;exact h0
  |1,_=>exact hv
  |j+2,hj=>
   have:=h (j+2) hj;rw[lO]at this;simp only[List.modify_zero_cons];rw[lO];simpa using this
 |e0::es,a::v::r,i+1,e,ho,hl,h,hnd,hi,hkey=>by
  simp only[sb,br]at ho;simp only[List.map_cons,List.nodup_cons]at hnd;have hi':es[i]? =some e:=by simpa using hi
  have h0:RD ν x e0.key a:=h 0 bg;have h1:RD ν x e0.val v:=h 1 bg;obtain⟨i1,i2⟩:=M0 hk hb hv es r i e ho.2 (by simp only[aT]at hl;omega) (fun j hj=>by
   have:=h (j+2) (by simp only[aT];omega);rw[lO]at this;simpa using this) hnd.2 hi' hkey
  have:m7 a k=false:=by
   cases q:m7 a k with
   |false=>rfl
   |true=>exact absurd (fF.2 ⟨e,List.mem_of_getElem? hi',hkey.trans ((Bf h0 hk ho.1 hb).1 q).symm⟩) hnd.1
  refine⟨by simp only[ud,this,cond_false,aT,i1],fun j hj=>?_⟩;simp only[ud,this,cond_false,List.modify_succ_cons]
  match j,hj with
  |0,_=>exact h0
  |1,_=>exact h1
  |j+2,hj=>
   have:=i2 j (by simp only[aT]at hj;omega);rw[<-lO e0]at this;simpa using this
 |_::_,[],_,_,_,hl,_,_,_,_=>by simp at hl
 |_::es,[_],_,_,ho,hl,_,_,_,_=>by simp at hl;omega
end
section
variable {x:X} {f:Nat->Option bL} {C:CC} {defs:List (Option Nat)} {J:Src->bI} {ev:Operand->Value} {Y:Ctx} {m:List (Nat×bL)} {L:Nat}
def p0 {d:D}(h:V2 m d):∃l kvs,d=.fn 5000000 [.it l]/\look m l=some (.mpb kvs)/\sb kvs=true:=by
 unfold V2 at h;split at h
 .rename_i n l;obtain⟨rfl,h⟩:=h;split at h
  .rename_i kvs hl;exact⟨l,kvs,rfl,hl,h⟩
  .exact h.elim
 .exact h.elim
def RD.Bl {ν:List (Nat×Nat)}(hsm:∀fid n,dp ν fid=some n->n<1000000){v:Value}{l:Nat}(h:RD ν x v (.fn 5000000 [.it l])):∃b base tot,v=.map (some b)/\x.β l=some (b,base,tot):=by
 generalize hd:D.fn 5000000 [.it l]=d at h;cases h<;>simp only[reduceCtorEq,D.fn.injEq]at hd
 case fn fid n cs ds hν hl h=>have:=hsm _ _ hν;omega
 case ek fid n cs ds hν hl h=>have:=hsm _ _ hν;omega
 case ifc t n v ds hν hn hl h=>omega
 case im l' b base tot hβ=>
  obtain⟨_,hd⟩:=hd;simp only[pJ,D.it.injEq,bW]at hd;subst hd;exact⟨b,base,tot,rfl,hβ⟩
 all_goals (first|omega|(obtain⟨h1,_⟩:=hd;omega))
def UQ {o:Oper}{i:aG}{t:TypeId}{r:Option Operand}(hc:C.op defs o=some i)(ho:o.op=.makeMap t r)(hρ:pM C defs J ev x o.op.operands.toList)(hob:i.dE Y J m)(hs:eK C.ν x f)(hL:x.β L=none):
  uB C.ν x (ij f (i.wr J L) (i.cr Y J m L)) L (i.val Y J m L) ((execOp ev o).run C.P x.w):=by
 cases r with
 |some r=>simp[CC.op,ho]at hc
 |none=>
  simp only[CC.op,ho]at hc;split at hc
  .split at hc
   .simp only[aP]at hc;subst hc;refine mi (tot:=1) (blk:=.mpb []) hs hL (fU.alloc x.w (.map #[] 0)) bg ⟨rfl,#[],0,ea x.w _,rfl,bg,fun i hi=>by simp at hi⟩ (.im L x.w.heap.size 0 1 (by simp[eu])) ?_ (fun l=>?_)
    .simp[execOp,ho,Instr.makeMap]
    .by_cases e:l=L
     .subst e;simp[ij,aG.wr,aG.cr,cE,iM]
     .simp[ij,aG.wr,e,iM]
   .cases hc
  .cases hc
def Bo {l:Nat}{kvs:List D}(h:look m l=some (.mpb kvs)):J8 m (.fn 5000000 [.it l])=kvs:=by simp only[J8,h]
def FC {P:Program}{k:TypeId}(h:Fy P k=true):WideMaps.KeyLaw P k/\∀{ν:List (Nat×Nat)}{x:X}{v:Value}{d:D},RD ν x v d->qQ d=true->∃l,keyOf P k v=some l:=by
 obtain⟨e,A,he,hsz⟩:=MM h;refine⟨A.law,fun hv hk=>?_⟩;obtain⟨a,b,_,rfl,ha,hb⟩:=hv.key hk;exact⟨_,J2 A he hsz ha hb⟩
def MY:∀(kvs:List D) (j:Nat),sb kvs=true->2*j<kvs.length->qQ (kvs.getD (2*j) .any)=true
 |[],j,_,h=>by simp at h
 |[_],j,h,_=>by simp[sb]at h
 |a::v::r,0,h,_=>by simp only[sb,br]at h;exact h.1
 |a::v::r,j+1,h,hl=>by
  simp only[sb,br]at h;have:=MY r j h.2 (by simp only[aT]at hl;omega);rw[show 2*(j+1)=2*j+2 by omega];simpa using this
def Ht {ν:List (Nat×Nat)}{x:X}{P:Program}{k:TypeId}(h:Fy P k=true){es:List MapEntry}{kvs:List D}(ho:sb kvs=true)(hl:2*es.length=kvs.length)(hd:∀j,j<kvs.length->RD ν x (Bp es j) (kvs.getD j .any)):∀e∈es,∃l,keyOf P k e.key=some l:=by
 intro e he;obtain⟨j,hj,rfl⟩:=List.mem_iff_getElem.1 he;have h1:=hd (2*j) ah;have h2:Bp es (2*j)=es[j].key:=by
  unfold Bp;rw[show 2*j/2=j by omega,List.getElem?_eq_getElem hj];simp
 rw[h2]at h1;exact(FC h).2 h1 (MY kvs j ho ah)
def UP {o:Oper}{i:aG}{t:TypeId}{p q:Operand}(hsm:∀fid n,dp C.ν fid=some n->n<1000000)(hc:C.op defs o=some i)(ho:o.op=.lookup t p q true)(hρ:pM C defs J ev x o.op.operands.toList)(hob:i.dE Y J m)(hs:eK C.ν x f)(hag:yQ f m (i.kY J)):
  uB C.ν x (ij f (i.wr J L) (i.cr Y J m L)) L (i.val Y J m L) ((execOp ev o).run C.P x.w):=by
 simp only[CC.op,ho]at hc;split at hc
 .rename_i a b kt et h1 h2 hu;split at hc
  .rename_i z hz;split at hc
   .rename_i hk;simp only[aP]at hc;subst hc;obtain⟨k1,k2,k3,k4⟩:=hob;obtain⟨l,kvs,hd,hl,hK⟩:=p0 k3;have hfl:f l=some (.mpb kvs):=by rw[<-hl];exact hag l (by simp[hd,xo])
    have hv:=hρ p (by simp[ho,Op.operands]) a h1 k1;rw[hd]at hv;obtain⟨bb,base,tot,hv1,hβ⟩:=hv.Bl hsm;have hkv:=hρ q (by simp[ho,Op.operands]) b h2 k2;obtain⟨hnI,hnl,es,cl,hb1,pe,VX,Ue⟩:=hs.own l _ bb base tot hfl hβ;obtain⟨law,hko⟩:=FC hk;obtain⟨kl,hkl⟩:=hko hkv k4;have hall:=Ht hk hK (by simpa using pe) Ue;have hck:=law.check x.w es.isEmpty hkl;obtain⟨ti,zv,hi,hzv,hr⟩:=j5 (x:=x) hz;have haf:ij f ((aG.lkM z a b).wr J L) ((aG.lkM z a b).cr Y J m L)=f:=by funext l';simp[ij,aG.wr]
    have htup:∀{a b:Value} {da db:D},RD C.ν x a da->RD C.ν x b db->RD C.ν x (.tuple #[a,b]) (.tup [da,db]):=fun ha hb=>.tup _ _ rfl fun i hi=>by
     match i,hi with
     |0,_=>exact ha
     |1,_=>exact hb
    obtain⟨f1,f2⟩:=Hy hkv k4 es.toList kvs hK (by simpa using pe) Ue;have hobj:=MapKept.run_getObj_map (P:=C.P) hb1;rw[haf];rcases law.find x.w hkl es.toList hall with⟨r1,r2⟩|⟨j,e,r1,r2,r3⟩
    .simp only[aG.val,hd,Bo hl,f1 r2];refine lG hs (v:=.tuple #[zv,.bool false]) ?_ (htup hr (.bool _));simp[execOp,ho,hv1,Instr.lookup,run_underlying hu,hobj,hck,r1,zeroValue,run_typeInfo x.w hi,hzv,Result.andThen]
    .obtain⟨v,f3,f4⟩:=f2 e (List.mem_of_getElem? r2) r3 VX;simp only[aG.val,hd,Bo hl,f3];refine lG hs (v:=.tuple #[e.val,.bool true]) ?_ (htup f4 (.bool _));simp[execOp,ho,hv1,Instr.lookup,run_underlying hu,hobj,hck,r1,Result.andThen]
   .cases hc
  .cases hc
 .cases hc
def Rs {k d:D}(hk:k.aZ=true)(hd:d.aZ=true):∀(kvs:List D),aR kvs=true->aR (ud k d kvs)=true
 |[],_=>by simp[ud,aR,hk,hd]
 |[_],_=>by simp[ud,aR,hk,hd]
 |a::v::r,h=>by
  simp only[aR,br]at h;simp only[ud];cases m7 a k
  .simp only[cond_false,aR,br];exact⟨h.1,h.2.1,Rs hk hd r h.2.2⟩
  .simp only[cond_true,aR,br];exact⟨h.1,hd,h.2.2⟩
def UU {o:Oper}{i:aG}{t:TypeId}{p q r:Operand}(hsm:∀fid n,dp C.ν fid=some n->n<1000000)(hc:C.op defs o=some i)(ho:o.op=.mapUpdate t p q r)(hρ:pM C defs J ev x o.op.operands.toList)(hob:i.dE Y J m)(hs:eK C.ν x f)(hag:yQ f m (i.kY J)):
  uB C.ν x (ij f (i.wr J L) (i.cr Y J m L)) L (i.val Y J m L) ((execOp ev o).run C.P x.w):=by
 simp only[CC.op,ho]at hc;split at hc
 .rename_i a b c h1 h2 h3;split at hc
  .rename_i kt et hu;split at hc
   .rename_i hk;simp only[aP]at hc;subst hc;obtain⟨k1,k2,k2',k3,k4,vk,vn,hvd⟩:=hob;obtain⟨l,kvs,hd,hl,hK⟩:=p0 k3;have hfl:f l=some (.mpb kvs):=by rw[<-hl];exact hag l (by simp[hd,xo])
    have hv:=hρ p (by simp[ho,Op.operands]) a h1 k1;rw[hd]at hv;obtain⟨bb,base,tot,hv1,hβ⟩:=hv.Bl hsm;have hkv:=hρ q (by simp[ho,Op.operands]) b h2 k2;have hvv:=hρ r (by simp[ho,Op.operands]) c h3 k2';obtain⟨hnI,hnl,es,cl,hb1,pe,VX,Ue⟩:=hs.own l _ bb base tot hfl hβ;have hlt:=hs.ek l bb base tot hβ;obtain⟨law,hko⟩:=FC hk;obtain⟨kl,hkl⟩:=hko hkv k4;have hall:=Ht hk hK (by simpa using pe) Ue;have hck:=law.check x.w false hkl;have hobj:=MapKept.run_getObj_map (P:=C.P) hb1;have hset:∀ob,(setObj bb ob).run C.P x.w=.ok () {x.w with heap:=x.w.heap.setIfInBounds bb ob}:=fun ob=>MapKept.run_setObj_map ob hb1
    have hknl:(J b).d.aZ=true:=by obtain⟨s1,s2,e1,_⟩:=hkv.key k4;rw[e1];rfl
    have hvnl:(J c).d.aZ=true:=by rw[hvd];rfl

    obtain⟨es',cl',hrun,hlen',hnd',hrd'⟩:∃es' cl',(execOp ev o).run C.P x.w=.ok .skip {x.w with heap:=x.w.heap.setIfInBounds bb (.map es' cl')}/\2*es'.size=(ud (J b).d (J c).d kvs).length/\(es'.toList.map (·.key)).Nodup/\∀j,j<(ud (J b).d (J c).d kvs).length->RD C.ν x (Bp es'.toList j) ((ud (J b).d (J c).d kvs).getD j .any):=by
     rcases law.find x.w hkl es.toList hall with⟨r1,r2⟩|⟨j,e,r1,r2,r3⟩
     .obtain⟨p1,p2⟩:=Hz hkv k4 cl hvv es.toList kvs hK (by simpa using pe) Ue r2;refine⟨es.push ⟨ev q,ev r,cl⟩,cl+1, ?_,by rw[p1];simp;omega, ?_,by rw[p1];simpa using p2⟩
      .simp[execOp,ho,hv1,Instr.mapUpdate,run_underlying hu,hobj,hck,r1,hset,Result.andThen]
      .simp only[Array.toList_push,List.map_append,List.map_cons,List.map_nil];rw[List.nodup_append];refine⟨VX,bg,fun y hy z hz=>?_⟩;obtain⟨e,he,rfl⟩:=fF.1 hy;simp only[bJ]at hz;subst hz;exact r2 e he
     .obtain⟨p1,p2⟩:=M0 hkv k4 hvv es.toList kvs j e hK (by simpa using pe) Ue VX r2 r3;have hst:(Instr.keyThatStays (((es[j]?).map (·.key)).getD (ev q)) (ev q)).run C.P x.w=.ok (ev q) x.w:=by
       have:es[j]? =some e:=by simpa using r2
       rw[this];simp only[Option.map_some,Option.getD_some,r3];exact law.stays x.w hkl
      refine⟨es.modify j fun e=>{e with key:=ev q,val:=ev r},cl, ?_,by rw[p1];simp;omega, ?_,by rw[p1];simpa using p2⟩
      .simp[execOp,ho,hv1,Instr.mapUpdate,run_underlying hu,hobj,hck,r1,hset,hst,Result.andThen]
      .have:=MapKept.modify_keys (es:=es) j (fun e=>{e with key:=ev q,val:=ev r}) (fun e' he'=>by
        have h4:es[j]? =some e:=by simpa using r2
        rw[h4]at he';obtain rfl:=bd he';exact r3.symm)
       rw[this];exact VX
    let w':World:={x.w with heap:=x.w.heap.setIfInBounds bb (.map es' cl')}
    have hother:∀b',b'≠bb->w'.heap[b']? =x.w.heap[b']? :=fun b' hb'=>by simp[w',Array.getElem?_setIfInBounds,show ¬bb=b' by omega]
    have hhere:w'.heap[bb]? =some (.map es' cl'):=by simp[w',hlt]
    have hsize:w'.heap.size=x.w.heap.size:=by simp[w']
    have hstep:Step x ⟨w',x.I,x.β⟩:=
     ⟨rfl,rfl,rfl,by show _<=w'.heap.size;omega,fun _ h=>h,fun b' hb'=>hother b' (fun e=>hnI (e▸hb')),fun _ _ h=>h,fun b' _ hn=>hother b' (fun e=>hn l _ hβ e.symm),fun _ h=>.inl h,fun _ _ h=>.inl h⟩
    have haf:∀l',ij f ((aG.upM a b c).wr J L) ((aG.upM a b c).cr Y J m L) l'=iM f l (some (.mpb (ud (J b).d (J c).d kvs))) l':=by
     intro l';simp only[ij,aG.wr,hd,xo,aG.cr,Bo hl,bJ,cE,iM];by_cases e:l'=l
     .rw[ay e,ay e,ay e]
     .rw[aj e,aj e]
    refine⟨undef,⟨w',x.I,x.β⟩,.inr ⟨hrun,rfl⟩,hstep,.any _, ?_,fun _ _=>rfl⟩;refine⟨fun l' blk b' base' tot' e1 e2=>?_,fun l1 l2 b' base' tot' base'' tot'' e1 e2 e3 e4=>?_,fun b' hb'=>by show b'<w'.heap.size;rw[hsize];exact hs.imm b' hb',fun l' b' base' tot' e=>by show b'<w'.heap.size;rw[hsize];exact hs.ek l' b' base' tot' e,og hstep.le hs.gd⟩
    .rw[haf]at e1;by_cases e:l'=l
     .subst e;simp only[iM,aY,aP]at e1;subst e1;have e2':x.β l'=some (b',base',tot'):=e2;rw[hβ]at e2';simp only[aP,dm]at e2';obtain⟨rfl,rfl,rfl⟩:=e2';exact⟨hnI,Rs hknl hvnl kvs hnl,es',cl',hhere,hlen',hnd',fun j hj=>(hrd' j hj).mono hstep.le⟩
     .simp only[iM,e,aS]at e1;obtain⟨a1,a2⟩:=hs.own l' blk b' base' tot' e1 e2;refine⟨a1,a2.mono hstep.le (hother b' (fun eb=>?_))⟩;subst eb;exact e (hs.inj l' l b' base' tot' base tot (by rw[e1];simp) (by rw[hfl];simp) e2 hβ)
    .rw[haf]at e1 e2;refine hs.inj l1 l2 b' base' tot' base'' tot'' ?_ ?_ e3 e4
     .by_cases e:l1=l
      .rw[e,hfl];simp
      .simpa[iM,e]using e1
     .by_cases e:l2=l
      .rw[e,hfl];simp
      .simpa[iM,e]using e2
   .cases hc
  .cases hc
 .cases hc
end
end
end Go.Abs
