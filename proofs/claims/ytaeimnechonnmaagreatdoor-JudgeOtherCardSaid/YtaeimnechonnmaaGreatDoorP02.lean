/- A part of the proofs. -/
import Derived.Deep.DeepAppendWide
import Derived.Great.BuildSlice
import Derived.Laws.Cover4
import Derived.Laws.IdiomStrings
import Derived.Laws.MakeOwn
import Derived.Lib.Strings
import Derived.MapKept
import Derived.Test.YtaeimnechonnmaaGreatDoorP01
set_option linter.all false
set_option maxRecDepth 4000
namespace Go.Abs
section
variable [dq]
section
variable {ν:List (Nat×Nat)} {x:X} {P:Program}
def m7 {e:D}{k n o b at0:Nat}{ag:Bool}{ty:TypeId}{c:Nat->Value}(hk:e.cells.length=k)(hle:o+n<=k)
  (hc:∀j,j<k->x.w.cell? ⟨b,at0+j,none⟩=some (c j)/\(c j).oneCell'=true/\RD ν x (c j) (e.cells.getD j .any))
  (hn:n=P.cellsOf ty) (hn0:P.cellsOf ty≠0) (hu:(P.underlying ty).isNone=false) (hag:ag=cx P ty) (h1:ag=false->n=1):
  ∃v,(loadVar ty ⟨b,at0+o,none⟩).run P x.w=.ok v x.w/\RD ν x v (nA e k n o ag):=by
 have hcut:∃v,(loadVar ty ⟨b,at0+o,none⟩).run P x.w=.ok v x.w/\RD ν x v (cut e.cells o n ag)/\(ag=true->v=.agg ((List.range n).map fun j=>c (o+j)).toArray)/\(ag=false->v=c o):=by
  cases hb:ag
  .have hn1:=h1 hb;refine⟨c o, ?_,by simp only[cut,cond_false];exact(hc o ae).2.2,bh,fun _=>rfl⟩;rw[hb]at hag;unfold loadVar;rw[Sem.run_bind,qj hu,<-hag];simp[Result.andThen,(hc o ae).1]
  .rw[hb]at hag;refine⟨.agg ((List.range n).map fun j=>c (o+j)).toArray, ?_, ?_,fun _=>rfl,bh⟩
   .unfold loadVar;rw[Sem.run_bind,qj hu,<-hag];have:=run_loadCells (P:=P) x.w ⟨b,at0+o,none⟩ n (fun j=>c (o+j)) (fun j hj=>by rw[Addr.wC,Nat.add_assoc];exact(hc (o+j) ae).1);simp[Result.andThen,dw hn0,<-hn,this]
   .simp only[cut,cond_true];refine .agg _ _ eo (fun i hi=>?_) (fun i hi=>?_)
    .simp at hi;have:=(hc (o+i) ae).2.1;simpa[Array.getD,show i<n by omega]using this
    .simp at hi;rw[dT _ _ _ _ _ ae];have:=(hc (o+i) ae).2.2;simpa[Array.getD,show i<n by omega]using this
 obtain⟨v,r1,r2,r3,r4⟩:=hcut;refine⟨v,r1, ?_⟩;unfold nA;cases hb:(n==k)&&(e.isAgg==ag)
 .simpa using r2
 .simp only[bm,beq_iff_eq]at hb;obtain⟨hnk,hea⟩:=hb;simp only[cond_true];have ho:o=0:=ae;subst ho;cases hb:ag
  .rw[hb]at hea;have hv:=r4 hb;have hn1:=h1 hb;have hcell:=(hc 0 ae).2.2;rw[hv];cases e<;>simp only[D.cells,D.isAgg,bK,bA]at hk hea hcell<;>first|omega|exact absurd hea b7|exact hcell
  .rw[hb]at hea;cases e<;>simp only[D.isAgg,gV]at hea;rename_i ds;rw[r3 hb];simp only[D.cells]at hk hc;refine .agg _ _ eo (fun i hi=>?_) (fun i hi=>?_)
   .have:=(hc i ae).2.1;simpa[Array.getD,show i<n by omega]using this
   .have:=(hc i ae).2.2;simpa[Array.getD,show i<n by omega]using this
end
section
variable {x:X} {f:Nat->Option bM} {C:CC} {defs:List (Option Nat)} {J:Src->b8} {ev:Operand->Value} {Y:Ctx} {m:List (Nat×bM)} {L:Nat}
def yb {t:TypeId}{z:List D}(h:nv C.P t=some (.agg z)):∃i cs,C.P.info? t=some i/\i.zero=some (.agg cs)/\RD C.ν x (.agg cs) (.agg z):=by
 unfold nv at h;cases hi:C.P.info? t with
 |none=>simp[hi]at h
 |some i=>
  cases hz:i.zero with
  |none=>simp[hi,hz]at h
  |some v=>
   simp only[hi,hz,Option.bind_some]at h;have hr:RD C.ν x v (.agg z):=kI v _ h;cases v with
   |agg cs=>exact⟨i,cs,rfl,hz,hr⟩
   |_=>cases hr
def kW {t:TypeId}{z:D}(h:nv C.P t=some z):∃i v,C.P.info? t=some i/\i.zero=some v/\RD C.ν x v z:=by
 unfold nv at h;cases hi:C.P.info? t with
 |none=>simp[hi]at h
 |some i=>
  cases hz:i.zero with
  |none=>simp[hi,hz]at h
  |some v=>
   grind [kI]
def sV {P:Program}(w:World):∀(fs:List Field),(∀f∈fs,(P.info? f.type).isSome=true)->
  (fs.mapM (fun f=>(do pure (f.offset,<-sizeOf f.type):Sem (Nat×Nat)))).run P w=.ok (fs.map fun f=>(f.offset,P.cellsOf f.type)) w
 |[],_=>bh
 |f::r,h=>by
  have hf:=h f bh;cases hi:P.info? f.type with
  |none=>simp[hi]at hf
  |some i=>
   have hr:=sV w r (fun g hg=>h g (by simp[hg]));simp only[List.mapM_cons,Sem.run_bind,run_sizeOf w hi,Result.andThen_ok,Sem.run_pure,hr];simp
def BL {op:BinOp}{d e:D}(h:iZ op d e):(∃k a k' b,d=.int k a/\e=.int k' b)\/(∃a b,d=.str a/\e=.str b):=by
 cases d<;>cases e<;>first|exact .inl ⟨_,_,_,_,rfl,rfl⟩|exact .inr ⟨_,_,rfl,rfl⟩|(simp only[iZ]at h)
def jY {op:BinOp}{t u:TypeId}{p q:Operand}{o:Oper}{v:Value}{w:World}{P:Program}(ho:o.op=.binOp op t p q u)(hg:(eqGuard op t p q (ev p) (ev q)).run P w=.ok () w)
  (hr:(binOp op t (ev p) (ev q)).run P w=.ok v w):(execOp ev o).run P w=.ok (.value v) w:=by
 simp[execOp,ho,hg,hr]
def yk (op:BinOp)(hop:op=.eql\/op=.neq)(t:TypeId)(xs ys:Array Value)(b:Bool)(w:World)(P:Program)(h:(Op.equalIn 10000 t (.agg xs) (.agg ys)).run P w=.ok b w):
  (binOp op t (.agg xs) (.agg ys)).run P w=.ok (.bool (if op=.neq then !b else b)) w:=by
 rcases hop with rfl|rfl
 .rw[run_eql_struct,h];rfl
 .rw[run_neq_struct,h];rfl
def OZ {a:Option Addr}{len cap k:Nat}{es:List D}{l h:Nat}(hv:RD C.ν x (.slice a len cap) (.sl k es))(h1:l<=h)(h2:h<=es.length):
  RD C.ν x (.slice (if cap=l then a else a.map (·.add (l*k))) (h-l) (cap-l)) (.sl k ((es.take h).drop l)):=by
 cases hv with
 |sl _ b off _ _ _ _ c hlen ha hcap hm hk hn hc hone hh=>
  have hl':((es.take h).drop l).length=h-l:=eo;have hg:∀i,i<h-l->((es.take h).drop l).getD i .any=es.getD (l+i) .any:=by
   intro i hi;simp[List.getD,List.getElem?_drop,List.getElem?_take,show l+i<h by omega]
  refine .sl _ b (off+l*k) (h-l) (cap-l) k _ (fun i j=>c (l+i) j) hl'.symm ?_ ae ae (fun i hi=>?_) (fun i hi=>?_) (fun i j hi hj=>?_) (fun i j hi hj=>hone _ _ ae hj) (fun i j hi hj=>?_)
  .grind [Addr.wC]
  .rw[hg i hi];exact hk _ ae
  .rw[hg i hi];exact hn _ ae
  .have:=hc (l+i) j ae hj;rw[<-this];congr 2;rw[Nat.add_mul];omega
  .rw[hg i hi];exact hh _ _ ae hj
def OX {a:Option Addr}{len cap k:Nat}{es:List D}{h m:Nat}(hv:RD C.ν x (.slice a len cap) (.sl k es))(h1:h<=m)(h2:m<=es.length):
  RD C.ν x (.slice (if m=0 then a else a.map (·.add (0*k))) h m) (.sl k (es.take h)):=by
 cases hv with
 |sl _ b off _ _ _ _ c hlen ha hcap hm hk hn hc hone hh=>
  have hl':(es.take h).length=h:=eo;have hg:∀i,i<h->(es.take h).getD i .any=es.getD i .any:=by
   intro i hi;simp[List.getD,List.getElem?_take,hi]
  refine .sl _ b off h m k _ (fun i j=>c i j) hl'.symm ?_ h1 ae (fun i hi=>?_) (fun i hi=>?_) (fun i j hi hj=>hc i j ae hj) (fun i j hi hj=>hone _ _ ae hj) (fun i j hi hj=>?_)
  .by_cases he:h=0
   .left;exact iO ae
   .right;rw[ai ae];rcases ha with rfl|⟨rfl,hI⟩
    .simp at h2;omega
    .exact⟨by simp[Addr.add],hI⟩
  .rw[hg i hi];exact hk _ ae
  .rw[hg i hi];exact hn _ ae
  .rw[hg i hi];exact hh _ _ ae hj
def Ly {v:Value}{L' k i n:Nat}(hv:RD C.ν x v (.own L' k i n)):
  ∃a cap,v=.slice a n cap/\n<=cap/\∀h m,h<=m->m<=n->RD C.ν x (.slice (if m=0 then a else a.map (·.add (0*k))) h m) (.own L' k i h):=by
 cases hv with
 |own _ _ _ _ b base tot cap a hβ ha hcap hm ht=>
  refine⟨some a,cap,rfl,hcap,fun h m h1 h2=>?_⟩;have e:(if m=0 then some a else(some a).map (·.add (0*k)))=some a:=by simp[Addr.add]
  rw[e];exact .own L' k i h b base tot m a hβ (fun hp=>ha ae) h1 ae ae
 |own0 _ _ _ a=>
  refine⟨a,0,rfl,aE _,fun h m h1 h2=>?_⟩;obtain rfl:m=0:=ae;obtain rfl:h=0:=ae;exact .own0 _ _ _ _
def pP {vh vm:Value}{kh km:IntKind}{h m:Int}{len cap:Nat}(e1:vh=.int kh h)(e2:vm=.int km m)(h0:0<=h)(h1:h<=m)(h2:m<=cap):
  (Instr.sliceBounds true len cap none (some vh) (some vm)).run C.P x.w=.ok (0,h.toNat,m.toNat) x.w:=by
 subst e1;subst e2;simp[Instr.sliceBounds,run_sliceBound x.w km m cap .slice3Acap ae h2,run_sliceBound x.w kh h m.toNat .slice3B h0 ae]
def Lz {v:Value}{L' k i n:Nat}(hv:RD C.ν x v (.own L' k i n)):
  ∃a cap,v=.slice a n cap/\n<=cap/\∀l h,l<=h->h<=n->RD C.ν x (.slice (if cap=l then a else a.map (·.add (l*k))) (h-l) (cap-l)) (.own L' k (i+l) (h-l)):=by
 cases hv with
 |own _ _ _ _ b base tot cap a hβ ha hcap hm ht=>
  refine⟨some a,cap,rfl,hcap,fun l h h1 h2=>?_⟩;have e:(if cap=l then some a else(some a).map (·.add (l*k)))=some (if cap=l then a else a.add (l*k)):=by split<;>rfl
  rw[e];refine .own L' k (i+l) (h-l) b base tot (cap-l) _ hβ (fun hp=>?_) ae ae ae
  grind [Addr.wC]
 |own0 _ _ _ a=>
  refine⟨a,0,rfl,aE _,fun l h h1 h2=>?_⟩;obtain rfl:h=0:=ae;obtain rfl:l=0:=ae;exact .own0 _ _ _ _
def wY (s:List UInt8)(l h:Nat):(⟨⟨s⟩⟩:ByteArray).extract l h=⟨⟨(s.take h).drop l⟩⟩:=by
 rw[Lib.extract_eq,List.drop_take]
def vF {lo:Option Operand}(h:C.opt defs lo=some none):lo=none:=by
 cases lo with
 |none=>rfl
 |some o=>simp[CC.opt]at h
def vG {lo:Option Operand}{s:Src}(h:C.opt defs lo=some (some s)):∃o,lo=some o/\C.src defs o=some s:=by
 cases lo with
 |none=>simp[CC.opt]at h
 |some o=>simp only[CC.opt,cW,aZ]at h;obtain⟨a,h1,rfl⟩:=h;exact⟨o,rfl,h1⟩
def mQ {os':List Operand}(hρ:pI C defs J ev x os'){lo hi:Option Operand}(hml:∀o,lo=some o->o∈os')(hmh:∀o,hi=some o->o∈os'){l h:Option Src}(hl:C.opt defs lo=some l)(hh:C.opt defs hi=some h)(k1:Hc J l)(k2:Hc J h)(DF:Bool)(len cap:Nat)
  (hcap:DF=false->len=cap) (hle:len<=cap) (b2:mP (dO J h) len) (b1:mP (dO J l) (dW (dO J h) len)):
  (Instr.sliceBounds DF len cap (lo.map ev) (hi.map ev) none).run C.P x.w=.ok (dW (dO J l) 0,dW (dO J h) len,cap) x.w/\dW (dO J l) 0<=dW (dO J h) len/\dW (dO J h) len<=len:=by
 have hh':∃code,(match hi.map ev with|some v=>Instr.sliceBound v cap code|none=>pure len:Sem Nat).run C.P x.w=.ok (dW (dO J h) len) x.w/\dW (dO J h) len<=len/\code=(if DF then BoundsCode.sliceAcap else .sliceAlen):=by
  cases h with
  |none=>
   obtain rfl:=vF hh;exact⟨_,by simp[dO,dW],by simp[dO,dW],rfl⟩
  |some s=>
   obtain⟨o,rfl,h1⟩:=vG hh;have hv:=hρ o (hmh o rfl) s  h1 k2;simp only[dO]at b2;cases hd:(J s).d<;>simp only[hd,mP]at b2;rename_i kk n;rw[hd]at hv;refine⟨_, ?_, ?_,rfl⟩
   .simp only[Option.map_some,dO,dW,hd];rw[hv.dD,run_sliceBound x.w kk n cap _ b2.1 ae]
   .simp only[dO,dW,hd];omega
 obtain⟨code,g1,g2,rfl⟩:=hh';generalize dW (dO J h) len=B at*
 have hl':(match lo.map ev with|some v=>Instr.sliceBound v B .sliceB|none=>pure 0:Sem Nat).run C.P x.w=.ok (dW (dO J l) 0) x.w/\dW (dO J l) 0<=B:=by
  cases l with
  |none=>
   obtain rfl:=vF hl;exact⟨by simp[dO,dW],by simp[dO,dW]⟩
  |some s=>
   obtain⟨o,rfl,h1⟩:=vG hl;have hv:=hρ o (hml o rfl) s  h1 k1;simp only[dO]at b1;cases hd:(J s).d<;>simp only[hd,mP]at b1;rename_i kk n;rw[hd]at hv;refine⟨?_, ?_⟩
   .simp only[Option.map_some,dO,dW,hd];rw[hv.dD,run_sliceBound x.w kk n _ _ b1.1 b1.2]
   .simp only[dO,dW,hd];omega
 obtain⟨f1,f2⟩:=hl';refine⟨?_,f2,g2⟩;cases lo with
 |none=>
  simp only[Option.map_none,Sem.run_pure,Result.ok.injEq,bz]at f1;cases hi with
  |none=>
   simp only[Option.map_none,Sem.run_pure,Result.ok.injEq,bz]at g1;rw[<-f1,<-g1];simp[Instr.sliceBounds]
  |some v=>
   simp only[Option.map_some]at g1;rw[<-f1];simp[Instr.sliceBounds,g1]
 |some u=>
  have f1':(Instr.sliceBound (ev u) B .sliceB).run C.P x.w=.ok (dW (dO J l) 0) x.w:=f1;clear f1;generalize dW (dO J l) 0=A at*
  cases hi with
  |none=>
   simp only[Option.map_none,Sem.run_pure,Result.ok.injEq,bz]at g1;subst g1;simp only[Instr.sliceBounds,Option.map_some,Option.map_none,Sem.run_bind,Sem.run_pure,Result.andThen_ok,Option.isSome_none,gV,aL,f1']
  |some v=>
   have g1':(Instr.sliceBound (ev v) cap (if DF then BoundsCode.sliceAcap else .sliceAlen)).run C.P x.w=.ok B x.w:=g1;simp only[Instr.sliceBounds,Option.map_some,Option.map_none,Sem.run_bind,Sem.run_pure,Result.andThen_ok,Option.isSome_none,gV,aL,g1',f1']
def yx {P:Program}{t:TypeId}{ks:List CK}{d:Nat}(ha:cx P t=false)(h1:∀k,P.underlying t=some (.int k)->False)(h2:P.underlying t=some .string->False)(h:fF P (d+1) t=some ks):P.underlying t=some .bool:=by
 grind [cx,fF]
def tp {P:Program}{t:TypeId}{d:Nat}(h:P.underlying t=some .bool):fF P (d+1) t=some [.b]:=by
 unfold fF;simp[h]
def H0 {P:Program}(w:World){t:TypeId}{ps rs:Array TypeId}{vr:Bool}(h:P.underlying t=some (.func ps rs vr)):(binOp .eql t .nilFunc .nilFunc).run P w=.ok (.bool true) w/\
  ∀f a c,(binOp .eql t (.func f a c) .nilFunc).run P w=.ok (.bool false) w:=by
 have h1:∀d:Nat,(Op.equalIn (d+1) t .nilFunc .nilFunc).run P w=.ok true w:=fun d=>by simp[Op.equalIn,run_underlying h]
 have h2:∀(d:Nat) f a c,(Op.equalIn (d+1) t (.func f a c) .nilFunc).run P w=.ok false w:=fun d f a c=>by simp[Op.equalIn,run_underlying h]
 constructor
 .simp only[binOp];simp[Op.equal,Op.maxDepth,h1 9999]
 .intro f a c;simp only[binOp];simp[Op.equal,Op.maxDepth,h2 9999]
def zk (ν:List (Nat×Nat))(x:X)(d:D)(r:Result Next):Prop:=∃v,(r=.ok (.value v) x.w\/r=.ok .skip x.w/\v=undef)/\RD ν x v d
def ep {ν:List (Nat×Nat)}{d:D}{v:Value}{r:Result Next}(hr:r=.ok (.value v) x.w)(hd:RD ν x v d):zk ν x d r:=⟨v,.inl hr,hd⟩
def zk.did {ν:List (Nat×Nat)}{d:D}{r:Result Next}(h:zk ν x d r)(hs:eG ν x f):wA ν x f L d r:=by
 obtain⟨v,h1,h2⟩:=h;exact⟨v,x,h1,.refl x,h2,hs,fun _ _=>rfl⟩
def zX {P:Program}{ν:List (Nat×Nat)}{t:TypeId}{n:Nat}(h:ifN P ν t=some n):dr ν (1000000000+t)=some (500000+n)/\∃d,P.underlying t=some d/\∀ms,d≠.interface ms:=by
 unfold ifN at h;split at h
 .cases h
 .cases h
 .rename_i d hd hu;split at h
  .rename_i q hq;split at h
   .obtain rfl:=bg h;exact⟨hq.trans (bS some ae),d,hu,fun ms e=>hd ms e⟩
   .cases h
  .cases h
def zI:∀{v:Value},cX v=some (.fn 4600000 [])->v=.nilIface
 | .nilIface,_=>rfl
 | .bool b,h=>by simp[cX]at h
 | .int k n,h=>by simp[cX]at h
 | .string ⟨⟨s⟩⟩,h=>by simp only[cX]at h;split at h<;>simp at h
 | .pointer none,h=>by simp[cX]at h
 | .slice none 0 0,h=>by simp[cX]at h
 | .nilFunc,h=>by simp[cX]at h
 | .agg ⟨cs⟩,h=>by simp only[cX]at h;split at h<;>simp at h
 | .float _ _,h=>by simp[cX]at h
 | .complex _ _ _,h=>by simp[cX]at h
 | .pointer (some _),h=>by simp[cX]at h
 | .slice (some _) _ _,h=>by simp[cX]at h
 | .slice none (_+1) _,h=>by simp[cX]at h
 | .slice none 0 (_+1),h=>by simp[cX]at h
 | .map _,h=>by simp[cX]at h
 | .chan _,h=>by simp[cX]at h
 | .func _ _ _,h=>by simp[cX]at h
 | .iface _ _,h=>by simp[cX]at h
 | .tuple _,h=>by simp[cX]at h
def ml:∀{l:List (Nat×Nat)}{k q:Nat},dr l k=some q->(k,q)∈l
 |[],_,_,h=>by cases h
 |(a,b)::r,k,q,h=>by
  simp only[dr]at h;split at h
  .rename_i e;subst e;obtain rfl:=bg h;exact .head _
  .exact .tail _ (ml h)
def H2 {P:Program}(w:World){t:TypeId}{ms:Array (String×TypeId)}(h:P.underlying t=some (.interface ms)):(binOp .eql t .nilIface .nilIface).run P w=.ok (.bool true) w/\
  ∀u v,(binOp .eql t (.iface u v) .nilIface).run P w=.ok (.bool false) w:=by
 have h1:∀d:Nat,(Op.equalIn (d+1) t .nilIface .nilIface).run P w=.ok true w:=fun d=>by simp[Op.equalIn,run_underlying h]
 have h2:∀(d:Nat) u v,(Op.equalIn (d+1) t (.iface u v) .nilIface).run P w=.ok false w:=fun d u v=>by simp[Op.equalIn,run_underlying h]
 constructor
 .simp only[binOp];simp[Op.equal,Op.maxDepth,h1 9999]
 .intro u v;simp only[binOp];simp[Op.equal,Op.maxDepth,h2 9999]
def CX {P:Program}(w:World){xt t:TypeId}{d:TypeDesc}(hu:P.underlying t=some d)(hd:∀ms,d≠.interface ms){ti:TypeInfo}{z:Value}(hi:P.info? t=some ti)(hz:ti.zero=some z):
  (Instr.typeAssert .nilIface xt t true).run P w=.ok (.tuple #[z,.bool false]) w/\∀u v,(Instr.typeAssert (.iface u v) xt t true).run P w=.ok (if u=t then .tuple #[v,.bool true]else .tuple #[z,.bool false]) w:=by
 constructor
 .cases d<;>first
   |exact absurd rfl (hd _)
   |simp[Instr.typeAssert,run_underlying hu,zeroValue,run_typeInfo w hi,hz]
 .intro u v;cases d<;>first
   |exact absurd rfl (hd _)
   |(simp only[Instr.typeAssert,Sem.run_bind,run_underlying hu,Result.andThen_ok];split<;>simp[zeroValue,run_typeInfo w hi,hz])
def Dw {ν:List (Nat×Nat)}{x:X}(s:List UInt8):∀(es:List MapEntry) (ds:List D) (i:Nat),Og ds->2*es.length=ds.length->(∀j,j<ds.length->RD ν x (Pm es j) (ds.getD j .any))->
  ∃r,Instr.findNow .string (.string ⟨⟨s⟩⟩) es i=some r/\((∃j v,r=some (j,v)/\RD ν x v (IB s ds))\/(r=none/\IB s ds=.nilf))
 |[],[],_,_,_,_=>⟨none,rfl,.inr ⟨rfl,rfl⟩⟩
 |e::es,.str a::f::r,i,ho,hl,h=>by
  have h0:=h 0 bh;have h1:=h 1 bh;simp only[Pm,gW,List.getD_cons_succ,Nat.zero_div,List.getElem?_cons_zero]at h0 h1;have hk:e.key=.string ⟨⟨a⟩⟩:=by
   have h2:RD ν x e.key (.str a):=h0;exact h2.ie.1
  have h1':RD ν x e.val f:=h1;simp only[Instr.findNow,hk,Instr.sameNow,IB];by_cases ha:a=s
  .subst ha;rw[((MapKept.bytes_beq _ _).2 rfl:((⟨⟨a⟩⟩:ByteArray)==⟨⟨a⟩⟩)=true),beq_self_eq_true,cond_true];exact⟨_,rfl,.inl ⟨_,_,rfl,h1'⟩⟩
  .have e1:((⟨⟨s⟩⟩:ByteArray)==⟨⟨a⟩⟩)=false:=by
    cases hb:((⟨⟨s⟩⟩:ByteArray)==⟨⟨a⟩⟩)with
    |false=>rfl
    |true=>
     have hh:=(MapKept.bytes_beq _ _).1 hb;injection hh with hh
     injection hh with hh
     exact absurd hh.symm ha
   have e2:(a==s)=false:=beq_eq_false_iff_ne.2 ha;rw[e1,e2];simp only[cond_false];refine Dw s es r (i+1) ho (by simp only[bA]at hl;omega) fun j hj=>?_
   have:=h (j+2) (by simp only[bA];omega);have e3:Pm (e::es) (j+2)=Pm es j:=by
    unfold Pm;rw[show(j+2) /2=j/2+1 by omega,List.getElem?_cons_succ,show(j+2)%2=j%2 by omega]
   rw[e3]at this;simpa using this
 |_::_,[],_,_,hl,_=>by simp at hl
 |[],_::_,_,_,hl,_=>by simp at hl
 |_::es,[_],_,ho,hl,_=>by simp at hl;omega
def As {o:Oper}{i:aG}(hgz:∀g,C.cC.contains (500000000+g)=true->dq.gz g)(hcst:∀d,J (.c d)=⟨true,d⟩)(hsm:∀fid n,dr C.ν fid=some n->n<1000000)(hc:C.op defs o=some i)(hp:i.pure=true)(hρ:pI C defs J ev x o.op.operands.toList)(hob:i.dF Y J m)(hs:eG C.ν x f)(hgl:∀g,ev (.global g)=.pointer (some ⟨g,0,none⟩)):
  zk C.ν x (i.val Y J m L) ((execOp ev o).run C.P x.w):=by
 cases ho:o.op with
 |move p=>
  simp only[CC.op,ho,cW]at hc;obtain⟨s,h1,rfl⟩:=hc;exact ep (by simp[execOp,ho]) (hρ p (by simp[ho,Op.operands,Call.operands]) s h1 hob)
 |assign p=>
  simp only[CC.op,ho,cW]at hc;obtain⟨s,h1,rfl⟩:=hc;exact ep (by simp[execOp,ho]) (hρ p (by simp[ho,Op.operands,Call.operands]) s h1 hob)
 |pick c a b=>
  simp only[CC.op,ho]at hc;split at hc
  .rename_i c' a' b' h1 h2 h3;simp only[aZ]at hc;subst hc;obtain⟨k1,k2⟩:=hob;have hcv:=hρ c (by simp[ho,Op.operands,Call.operands]) c' h1 k1;cases hd:(J c').d<;>simp only[hd]at k2;rename_i t;rw[hd]at hcv;simp only[aG.val,hd];refine ep ?_ (RD.pick (fun ht=>hρ a (by simp[ho,Op.operands,Call.operands]) a' h2 (k2.1 ht)) (fun ht=>hρ b (by simp[ho,Op.operands,Call.operands]) b' h3 (k2.2 ht)));simp[execOp,ho,hcv.ir,asBool]
  .cases hc
 |build t ps=>
  simp only[CC.op,ho]at hc;split at hc
  .rename_i z fs hz hu;split at hc;rotate_left
   .cases hc
   rename_i hplaces;simp only[cW]at hc;obtain⟨ss,h1,rfl⟩:=hc;obtain⟨ti,cs,hi,hzv,hr⟩:=yb (x:=x) hz;have hsz:cs.size=z.length:=by cases hr with|agg _ _ hl _ _=>exact hl
   obtain⟨cs',g1,g2⟩:=ou hρ _ z.length ps.toList ss (fun p hp=>by simp only[ho,Op.operands,ec];exact⟨p,hp,rfl⟩) h1 hob cs z hsz hr;refine ep ?_ g2;have hpl:=sV (P:=C.P) x.w fs.toList (fun f hf=>(List.all_eq_true.1 hplaces) f hf);have hpl':(fs.mapM (fun f:Field=>(do pure (f.offset,<-sizeOf f.type):Sem (Nat×Nat)))).run C.P x.w=.ok (fs.map fun f:Field=>(f.offset,C.P.cellsOf f.type)) x.w:=by
    rw[Array.mapM_eq_mapM_toList,Sem.run_map,hpl];simp[Result.andThen,List.map_toArray];apply Array.ext';simp
   have hg:Instr.fill (fun i:Nat=>(fs.map fun f:Field=>(f.offset,C.P.cellsOf f.type))[i]?) cs (ps.map fun(i,o)=>(i,ev o)).toList=some cs':=by
    have e:(fun i:Nat=>(fs.map fun f:Field=>(f.offset,C.P.cellsOf f.type))[i]?)=(fun i=>(fs[i]?).map fun f:Field=>(f.offset,C.P.cellsOf f.type)):=by
     funext q;simp
    rw[e,Array.toList_map];exact g1
   simp only[execOp,ho,Instr.build,Sem.run_bind,zeroValue,run_typeInfo x.w hi,Result.andThen_ok,hzv,Sem.run_pure,run_underlying hu,hpl',Value.cells,hg]
  .rename_i z n e hz hu;split at hc
   .cases hc
   rename_i hce;simp only[cW]at hc;obtain⟨ss,h1,rfl⟩:=hc;obtain⟨ti,cs,hi,hzv,hr⟩:=yb (x:=x) hz;have hsz:cs.size=z.length:=by cases hr with|agg _ _ hl _ _=>exact hl
   obtain⟨cs',g1,g2⟩:=ou hρ _ z.length ps.toList ss (fun p hp=>by simp only[ho,Op.operands,ec];exact⟨p,hp,rfl⟩) h1 hob cs z hsz hr;refine ep ?_ g2;have hg:Instr.fill (fun i=>some (i*C.P.cellsOf e,C.P.cellsOf e)) cs (ps.map fun(i,o)=>(i,ev o)).toList=some cs':=by
    rw[Array.toList_map];exact g1
   simp only[execOp,ho,Instr.build,Sem.run_bind,zeroValue,run_typeInfo x.w hi,Result.andThen_ok,hzv,Sem.run_pure,run_underlying hu,dw hce,Value.cells,hg]
  .cases hc
 |nilCheck p=>
  simp only[CC.op,ho,cW]at hc;obtain⟨s,h1,rfl⟩:=hc;obtain⟨k1,k2⟩:=hob;have hv:=hρ p (by simp[ho,Op.operands,Call.operands]) s h1 k1;refine ep ?_ hv;cases hd:(J s).d<;>simp only[hd]at k2<;>rw[hd]at hv<;>generalize he:ev p=vp at hv<;>cases hv<;>simp[execOp,ho,he]
 |binOp op t p q u=>
  simp only[CC.op,ho]at hc;split at hc
  .rename_i a b h1 h2;have hbin:∀(i':aG),i'=.bin op a b->i'.dF Y J m->zk C.ν x (i'.val Y J m L) ((execOp ev o).run C.P x.w):=by
    rintro _ rfl ⟨k1,k2,k3⟩;have hv:=hρ p (by simp[ho,Op.operands,Call.operands]) a h1 k1;have hw:=hρ q (by simp[ho,Op.operands,Call.operands]) b h2 k2;rcases BL k3 with⟨kk,n,kk',n',e1,e2⟩|⟨s,s',e1,e2⟩
    .rw[e1]at hv k3;rw[e2]at hw k3;obtain⟨v,r1,r2⟩:=AU (ν:=C.ν) (x:=x) (P:=C.P) (t:=t) x.w k3;refine ep (jY ho (jX _ _ _ _ (by rw[hv.dD];exact⟨bh,bh⟩) _) (by rw[hv.dD,hw.dD];exact r1)) ?_;simp only[aG.val,e1,e2];exact r2
    .rw[e1]at hv k3;rw[e2]at hw k3;obtain⟨v,r1,r2⟩:=AV (ν:=C.ν) (x:=x) (P:=C.P) (t:=t) x.w k3;refine ep (jY ho (jX _ _ _ _ (by rw[hv.ie.1];exact⟨bh,bh⟩) _) (by rw[hv.ie.1,hw.ie.1];exact r1)) ?_;simp only[aG.val,e1,e2];exact r2
   split at hc
   .simp only[aZ]at hc;exact hc▸hbin _ rfl (hc▸hob)
   .simp only[aZ]at hc;exact hc▸hbin _ rfl (hc▸hob)
   .rename_i ms hu;split at hc
    .rename_i hb;simp only[aZ]at hc;subst hc;obtain⟨k1,k2⟩:=hob;have hv:=hρ p (by simp[ho,Op.operands,Call.operands]) a h1 k1;have hq:q=.const .nilIface:=by
      cases q with
      |const v=>
       simp only[CC.src,cW,Src.c.injEq]at h2;obtain⟨d,h3,rfl⟩:=h2;rw[zI h3]
      |func f=>
       simp only[CC.src,cW,Src.c.injEq,D.fn.injEq]at h2;obtain⟨n,h3,rfl,_⟩:=h2;exact absurd (hsm _ _ h3) ae
      |tmp t=>simp only[CC.src]at h2;split at h2<;>simp at h2
      |global g=>simp[CC.src]at h2
     have hev:ev q=.nilIface:=by
      have:=hρ q (by simp[ho,Op.operands,Call.operands]) _ h2 (by rw[hcst]);rw[hcst]at this;generalize ev q=vq at this;cases this with
      |ifn=>rfl
      |fn _ _ _ _ hν=>exact absurd (hsm _ _ hν) ae
      |dW _ _ _ _ hν=>exact absurd (hsm _ _ hν) ae
      |ifc=>exfalso;omega
     subst hq;cases hd:(J a).d<;>simp only[hd]at k2<;>rw[hd]at hv<;>generalize hep:ev p=vp at hv<;>cases hv<;>simp only[aG.val,hd]
     case fn.fn=>rename_i hν _ _;exact absurd (hsm _ _ hν) ae
     case fn.dW=>rename_i hν _ _;exact absurd (hsm _ _ hν) ae
     case fn.ifc t' n' v' hν hn hl hh=>
      rw[show(n'+4000000==4600000)=false from beq_eq_false_iff_ne.2 ae];exact ep (jY ho (by rw[hep,hev];simp[eqGuard]) (by rw[hep,hev];exact(H2 x.w hu).2 _ _)) (.bool _)
     case fn.ifn=>
      rw[beq_self_eq_true];exact ep (jY ho (by rw[hep,hev];simp[eqGuard]) (by rw[hep,hev];exact(H2 x.w hu).1)) (.bool _)
     all_goals (exfalso;omega)
    .cases hc
   .rename_i hu1 hu2 hu3;split at hc
    .cases hc
    .rename_i hge;have hge':C.P.eqGuardType C.P.depth t=false:=by simpa using hge
     have heq:∀(neg:Bool) (ks:List CK),fF C.P 30 t=some ks->op=(if neg then .neq else .eql)->i=.eqA neg (cx C.P t) ks a b->zk C.ν x (i.val Y J m L) ((execOp ev o).run C.P x.w):=by
      rintro neg ks hks hop rfl;obtain⟨k1,k2,a1,a2,f1,f2⟩:=hob;have hv:=hρ p (by simp[ho,Op.operands,Call.operands]) a h1 k1;have hw:=hρ q (by simp[ho,Op.operands,Call.operands]) b h2 k2;have hrun:=n6 (ν:=C.ν) (x:=x) (P:=C.P) 30 t ks hks 10000 ae (ev p) (ev q) _ _ x.w hv hw a1 a2 f1 f2;cases hag:cx C.P t
      .rw[hag]at a1 a2

       have hub:C.P.underlying t=some .bool:=yx (d:=29) hag hu1 hu2 hks;rw[tp (d:=29) hub,aZ]at hks;subst hks;have g1:=j0 f1 a1;have g2:=j0 f2 a2;cases e1:(J a).d<;>simp only[e1,CK.fits]at g1;cases e2:(J b).d<;>simp only[e2,CK.fits]at g2;rename_i b1 b2;rw[e1]at hv;rw[e2]at hw;refine ep (v:=.bool (if neg then !(b1==b2)else b1==b2)) (jY ho (jX _ _ _ _ (by rw[hv.ir];exact⟨bh,bh⟩) _) ?_) ?_
       .rw[hv.ir,hw.ir,hop];cases neg
        .simpa using run_eql_bool x.w t b1 b2 hub
        .simpa using run_neq_bool x.w t b1 b2 hub
       .simp only[aG.val,e1,e2,D.cells,ij,N4,eZ];cases neg<;>exact .bool _
      .rw[hag]at a1 a2;cases e1:(J a).d<;>simp only[e1,D.isAgg,gV]at a1;cases e2:(J b).d<;>simp only[e2,D.isAgg,gV]at a2;rw[e1]at hv;rw[e2]at hw;rw[e1,e2]at hrun;generalize hep:ev p=vp at*
       generalize heq':ev q=vq at*
       cases hv with
       |agg xs _ p1 p2 p3=>
        cases hw with
        |agg ys _ q1 q2 q3=>
         refine ep (jY (v:=.bool (if op=.neq then !(ij (D.agg _).cells (D.agg _).cells)else ij (D.agg _).cells (D.agg _).cells)) ho (by rw[hep,heq'];exact run_eqGuard_agg x.w _ _ _ _ _ _ hge') (by rw[hep,heq'];exact yk op (by cases neg<;>simp[hop]) t xs ys _ x.w C.P hrun)) ?_;simp only[aG.val,e1,e2];cases neg<;>simp only[hop,aN,aL,gV,cond_true,cond_false,reduceCtorEq]<;>exact .bool _
     split at hc
     .rename_i ks hks;simp only[aZ]at hc;exact heq false ks hks rfl hc.symm
     .rename_i ks hks;simp only[aZ]at hc;exact heq true ks hks rfl hc.symm
     .split at hc
      .rename_i hf;simp only[aZ]at hc;subst hc;obtain⟨k1,k2⟩:=hob;have hv:=hρ p (by simp[ho,Op.operands,Call.operands]) a h1 k1;have hq:ev q=.nilFunc:=by
        have:=hρ q (by simp[ho,Op.operands,Call.operands]) (.c .nilf) h2 (by rw[hcst]);rw[hcst]at this;generalize ev q=vq at this;cases this;rfl
       cases hd:(J a).d<;>simp only[hd]at k2<;>rw[hd]at hv<;>generalize hep:ev p=vp at hv<;>cases hv<;>simp only[aG.val,hd];all_goals first
        |exact ep (jY ho (jX _ _ _ _ (by rw[hep];exact⟨bh,bh⟩) _) (by rw[hep,hq];first|exact(H0 _ hf).1|exact(H0 _ hf).2 _ _ _)) (.bool _)
        |(exfalso;omega)
      .simp only[aZ]at hc;subst hc;simp[aG.pure]at hp
      .cases hc
     .split at hc
      .simp only[aZ]at hc;subst hc;simp[aG.pure]at hp
      .cases hc
     .cases hc
  .cases hc
 |makeInterface t p=>
  simp only[CC.op,ho]at hc;split at hc
  .rename_i s n h1 h2;simp only[aZ]at hc;subst hc;obtain⟨a1,d,hu,hd⟩:=zX h2;have hv:=hρ p (by simp[ho,Op.operands,Call.operands]) s h1 hob;refine ep (v:=.iface t (ev p)) ?_ (.ifc t n (ev p) [(J s).d] a1 ?_ rfl fun i hi=>by simp at hi;subst hi;exact hv)
   .cases d<;>first
     |exact absurd rfl (hd _)
     |simp[execOp,ho,Instr.makeInterface,run_underlying hu]
   .have:=hsm _ _ a1;omega
  .cases hc
 |typeAssert p xt t ok=>
  cases ok with
  |false=>simp[CC.op,ho]at hc
  |true=>
   simp only[CC.op,ho]at hc;split at hc
   .rename_i s n z h1 h2 hz;split at hc
    .rename_i hall;obtain⟨hn,hall⟩:=hall;simp only[aZ]at hc;subst hc;obtain⟨a1,d,hu,hd⟩:=zX h2;obtain⟨ti,zv,hi,hzv,hr⟩:=kW (x:=x) hz;obtain⟨r1,r2⟩:=CX x.w (xt:=xt) hu hd hi hzv;obtain⟨k1,k2⟩:=hob;have hv:=hρ p (by simp[ho,Op.operands,Call.operands]) s h1 k1;have htup:∀{a b:Value} {da db:D},RD C.ν x a da->RD C.ν x b db->RD C.ν x (.tuple #[a,b]) (.tup [da,db]):=fun ha hb=>.tup _ _ rfl fun i hi=>by
      match i,hi with
      |0,_=>exact ha
      |1,_=>exact hb
     cases hdd:(J s).d<;>simp only[hdd]at k2;rw[hdd]at hv;generalize hep:ev p=vp at hv;cases hv
     case fn=>rename_i hν _ _;exact absurd (hsm _ _ hν) ae
     case dW=>rename_i hν _ _;exact absurd (hsm _ _ hν) ae
     case ifn=>
      simp only[aG.val,hdd,show(4600000==n+4000000)=false from beq_eq_false_iff_ne.2 ae,cond_false];exact ep (by simp[execOp,ho,hep,r1]) (htup hr (.bool _))
     case ifc cs t' n' v' hν hn' hl hh=>
      by_cases e:t'=t
      .subst e;rw[a1]at hν;obtain rfl:n'=n:=by have:=bg hν;omega
       simp only[aG.val,hdd,beq_self_eq_true,cond_true];exact ep (by simp[execOp,ho,hep,r2]) (htup (hh 0 ae) (.bool _))
      .have hne:¬n'=n:=by
        rintro rfl;have:=List.all_eq_true.1 hall _ (ml hν);simp at this;exact e ae
       simp only[aG.val,hdd,show(n'+4000000==n+4000000)=false from beq_eq_false_iff_ne.2 ae,cond_false];exact ep (by simp[execOp,ho,hep,r2,e]) (htup hr (.bool _))
     all_goals (exfalso;omega)
    .cases hc
   .cases hc
 |store t p q=>
  simp only[CC.op,ho]at hc;split at hc
  .rename_i a b h1 h2;split at hc
   .rename_i hz;split at hc
    .rename_i hi;simp only[aZ]at hc;subst hc;obtain⟨ti,hi⟩:=Option.isSome_iff_exists.1 hi;obtain⟨k1,k2,k3⟩:=hob;have hv:=hρ p (by simp[ho,Op.operands,Call.operands]) a h1 k1;have hw:=hρ q (by simp[ho,Op.operands,Call.operands]) b h2 k2;cases hd:(J a).d<;>simp only[hd]at k3;cases hd2:(J b).d<;>simp only[hd2]at k3;rename_i k cs ds;cases ds with
     |cons=>exact k3.elim
     |nil=>
      simp only at k3;subst k3;rw[hd]at hv;rw[hd2]at hw;generalize hep:ev p=vp at hv;generalize heq:ev q=vq at hw;cases hw with
      |agg xs _ hl _ _=>
       obtain rfl:xs=#[]:=by apply Array.ext';simpa using hl
       cases hv
       case fn=>rename_i hν _ _;exact absurd (hsm _ _ hν) ae
       case dW=>rename_i hν _ _;exact absurd (hsm _ _ hν) ae
       case zp ad=>
        refine⟨undef,.inr ⟨?_,rfl⟩,.any _⟩;have hsz:ti.size=0:=by simpa[Program.cellsOf,hi]using hz
        simp[execOp,ho,hep,heq,Instr.storeAt,Instr.sureAddr,storeVar,sizeOf,run_typeInfo x.w hi,hsz,Value.cells,storeCells]
       case ifc=>exfalso;omega
    .cases hc
   .simp only[aZ]at hc;subst hc;simp[aG.pure]at hp
  .cases hc
 |unOp op t p=>
  simp only[CC.op,ho,cW]at hc;obtain⟨s,h1,rfl⟩:=hc;obtain⟨k1,k2⟩:=hob;have hv:=hρ p (by simp[ho,Op.operands,Call.operands]) s h1 k1;cases op<;>cases hd:(J s).d<;>simp only[hd]at k2<;>rw[hd]at hv<;>simp only[aG.val,hd]
  .exact ep (by simp[execOp,ho,hv.dD,Op.unary,Op.intArith]) (.int _ _)
  .exact ep (by simp[execOp,ho,hv.ir,Op.unary]) (.bool _)
 |convert s d p=>
  simp only[CC.op,ho]at hc;split at hc
  .rename_i ks k a hu1 hu2 h1;simp only[aZ]at hc;subst hc;obtain⟨k1,k2⟩:=hob;have hv:=hρ p (by simp[ho,Op.operands,Call.operands]) a h1 k1;cases hd:(J a).d<;>simp only[hd]at k2;rw[hd]at hv;simp only[aG.val,hd];exact ep (by simp[execOp,ho,hv.dD,convert,run_underlying hu1,run_underlying hu2,Conv.intToInt]) (.int _ _)
  .rename_i ks a hu1 hu2 h1;simp only[aZ]at hc;subst hc;obtain⟨k1,k2⟩:=hob;have hv:=hρ p (by simp[ho,Op.operands,Call.operands]) a h1 k1;cases hd:(J a).d<;>simp only[hd]at k2;rename_i n;rw[hd]at hv;simp only[aG.val,hd];refine ep (v:=.string (Utf8.encode n)) (by simp[execOp,ho,hv.dD,convert,run_underlying hu1,run_underlying hu2,Conv.intToString]) ?_;have h4:=encode_size_le n;have e:Utf8.encode n=⟨⟨JJ n⟩⟩:=rfl;rw[e];refine .str _ ?_;have:(JJ n).length=(Utf8.encode n).size:=rfl;simp only[maxLen];omega
  .split at hc
   .simp only[aZ]at hc;subst hc;simp[aG.pure]at hp
   .cases hc
  .split at hc
   .simp only[aZ]at hc;subst hc;simp[aG.pure]at hp
   .cases hc
  .cases hc
 |makeFunc fn first caps=>
  cases fn with
  |func fid=>
   simp only[CC.op,ho]at hc;split at hc
   .rename_i n l h1 h2;split at hc
    .rename_i hfe;simp only[aZ]at hc;subst hc;obtain⟨e1,e2,e3⟩:=fV hρ caps.toList l (fun o' ho'=>by simp only[ho,Op.operands,Array.toList_append,List.mem_append];exact .inr ho') h2 hob;have hf0:first=#[]:=by simpa using hfe
     refine ep (v:=.func (.func fid) #[] (caps.map ev)) (by simp[execOp,ho,Instr.makeFunc,hf0]) ?_;refine .fn fid n _ _ h1 (by simp[e2]) (fun i hi=>?_);have:=e3 i hi;rw[<-cw,Array.toList_map];exact this
    .split at hc
     .rename_i hle;simp only[cW]at hc;obtain⟨l1,hl1,rfl⟩:=hc;obtain⟨e1,e2,e3⟩:=fV hρ first.toList l1 (fun o' ho'=>by simp only[ho,Op.operands,Array.toList_append,List.mem_append];exact .inl ho') hl1 hob
      obtain⟨_,q2,_⟩:=fV hρ caps.toList l (fun o' ho'=>by simp only[ho,Op.operands,Array.toList_append,List.mem_append];exact .inr ho') h2 (by rw[List.isEmpty_iff.1 hle];trivial);have hf0:caps=#[]:=by
       rw[List.isEmpty_iff.1 hle]at q2;exact Array.eq_empty_of_size_eq_zero (by simpa[gL]using q2.symm)
      refine ep (v:=.func (.func fid) (first.map ev) #[]) (by simp[execOp,ho,Instr.makeFunc,hf0]) ?_;refine .dW fid n _ _ h1 (by simp[e2]) (fun i hi=>?_);have:=e3 i hi;rw[<-cw,Array.toList_map];exact this
     .cases hc
   .cases hc
  |_=>simp[CC.op,ho]at hc
 |lookup t p q ok=>
  cases ok with
  |true=>simp[CC.op,ho]at hc
  |false=>
   simp only[CC.op,ho]at hc;split at hc
   .rename_i a b kt et h1 h2 hu;split at hc
    .rename_i hk hz;simp only[aZ]at hc;subst hc;obtain⟨k1,k2,k3⟩:=hob;have hv:=hρ p (by simp[ho,Op.operands,Call.operands]) a h1 k1;have hw:=hρ q (by simp[ho,Op.operands,Call.operands]) b h2 k2;cases hd:(J a).d<;>simp only[hd]at k3;cases hd2:(J b).d<;>simp only[hd2]at k3;obtain⟨hq2,k4⟩:=k3;rename_i es s;rw[hd]at hv;rw[hd2]at hw;obtain⟨e1,e2⟩:=hw.ie;simp only[aG.val,hd,hd2];generalize hep:ev p=vp at hv;cases hv with
     |fn _ _ _ _ hν=>exact absurd (hsm _ _ hν) ae
     |dW _ _ _ _ hν=>exact absurd (hsm _ _ hν) ae
     |bx=>exfalso;omega
     |ifc=>exfalso;omega
     |ifn=>exfalso;omega
     |zp=>exfalso;omega
     |mp r' ents cl _ hI hh hl h=>
      obtain⟨r,f1,f2⟩:=Dw (ν:=C.ν) (x:=x) s ents.toList es 0 k4 (by simpa using hl) h;obtain⟨ti,zv,hi,hzv,hr⟩:=kW (x:=x) hz;rcases f2 with⟨j,v,rfl,f3⟩|⟨rfl,f3⟩
      .refine ep (v:=v) ?_ f3;simp[execOp,ho,hep,e1,Instr.lookup,run_underlying hu,MapKept.run_getObj_map hh,MapKept.run_checkKey hk (show MapKept.IsKey .string (.string ⟨⟨s⟩⟩)from trivial),MapKept.run_findKey hk f1,Result.andThen]
      .rw[f3];refine ep (v:=zv) ?_ hr;simp[execOp,ho,hep,e1,Instr.lookup,run_underlying hu,MapKept.run_getObj_map hh,MapKept.run_checkKey hk (show MapKept.IsKey .string (.string ⟨⟨s⟩⟩)from trivial),MapKept.run_findKey hk f1,Result.andThen,zeroValue,run_typeInfo x.w hi,hzv]
    .cases hc
   .cases hc
 |slice t p lo hi mx=>
  simp only[CC.op,ho]at hc;split at hc
  .rename_i a l h hu h1 hl hh;simp only[aZ]at hc;subst hc;obtain⟨k1,k2,k3,k4⟩:=hob;have hv:=hρ p (by simp[ho,Op.operands,Call.operands]) a h1 k1;cases hd:(J a).d<;>simp only[hd]at k4;rename_i s;rw[hd]at hv;obtain⟨e1,e2⟩:=hv.ie;obtain⟨b1,b2,b3⟩:=mQ hρ (by rintro _ rfl;simp[ho,Op.operands]) (by rintro _ rfl;simp[ho,Op.operands]) hl hh k2 k3 false s.length s.length (fun _=>rfl) (aE _) k4.1 k4.2;simp only[aG.val,hd];have hsz:(⟨⟨s⟩⟩:ByteArray).size=s.length:=rfl;refine ep (v:=.string ⟨⟨(s.take (dW (dO J h) s.length)).drop (dW (dO J l) 0)⟩⟩) ?_ (.str _ eo);simp[execOp,ho,e1,Instr.sliceAt,Instr.slice,run_underlying hu,hsz,b1,wY]
  .rename_i e a l h hu h1 hl hh;split at hc
   .cases hc
   rename_i hce;simp only[aZ]at hc;subst hc;obtain⟨k1,k2,k3,k4⟩:=hob;have hv:=hρ p (by simp[ho,Op.operands,Call.operands]) a h1 k1;cases hd:(J a).d<;>simp only[hd]at k4
   ·
    rw[hd]at hv;obtain⟨b1,b2,b3⟩:=mQ hρ (by rintro _ rfl;simp[ho,Op.operands]) (by rintro _ rfl;simp[ho,Op.operands]) hl hh k2 k3 true 0 0 (fun e=>by simp at e) (aE _) k4.1 (by
     have:dW (dO J h) 0=0:=by
      have:=k4.1;cases hdh:dO J h with
      |none=>rfl
      |some d=>rw[hdh]at this;cases d<;>simp_all[mP,dW]
     rw[this];exact k4.2)
    simp only[aG.val,hd];have e0:ev p=.slice none 0 0:=by generalize ev p=vp at hv;cases hv;rfl
    refine ep (v:=.slice none 0 0) ?_ .aB;have z1:dW (dO J l) 0=0:=ae;have z2:dW (dO J h) 0=0:=ae;rw[z1,z2]at b1;simp[execOp,ho,e0,Instr.sliceAt,Instr.slice,run_underlying hu,b1,dw hce]
   .rename_i k es;rw[hd]at hv;simp only[aG.val,hd];generalize hep:ev p=vp at hv;have hv2:=hv;cases hv with
    |sl aa b off len cap _ _ c hlen ha hcap hm hk hn hc' hone hh'=>
     subst hlen;obtain⟨b1,b2,b3⟩:=mQ hρ (by rintro _ rfl;simp[ho,Op.operands]) (by rintro _ rfl;simp[ho,Op.operands]) hl hh k2 k3 true es.length cap (fun e=>by simp at e) hcap k4.2.1 k4.2.2;refine ep (v:=.slice (if cap=dW (dO J l) 0 then aa else aa.map (·.add (dW (dO J l) 0*C.P.cellsOf e))) (dW (dO J h) es.length-dW (dO J l) 0) (cap-dW (dO J l) 0)) ?_ ?_
     .simp[execOp,ho,hep,Instr.sliceAt,Instr.slice,run_underlying hu,b1,dw hce]
     .rw[<-k4.1];exact OZ hv2 b2 b3
   .rename_i L' k i n;rw[hd]at hv;simp only[aG.val,hd];obtain⟨k5,k6,k7⟩:=k4;obtain⟨aa,cap,he,hle0,hr⟩:=Lz hv;obtain⟨b1,b2,b3⟩:=mQ hρ (by rintro _ rfl;simp[ho,Op.operands]) (by rintro _ rfl;simp[ho,Op.operands]) hl hh k2 k3 true n cap (fun e=>by simp at e) hle0 k6 k7;refine ep ?_ (hr _ _ b2 b3);simp only[execOp,ho,he,Instr.sliceAt,Instr.slice,run_underlying hu,Sem.run_bind,Result.andThen_ok,Option.map_none,b1,dw hce,Sem.run_pure,k5]
  .rename_i e a h mo hu h1 hl hh;obtain rfl:=vF hl;obtain⟨oh,rfl,hh1⟩:=vG hh;split at hc;rotate_left
   .cases hc
   rename_i ms hms;split at hc
   .cases hc
   rename_i hce;simp only[aZ]at hc;subst hc;obtain⟨k1,k2,k3,k4⟩:=hob;have hv:=hρ p (by simp[ho,Op.operands,Call.operands]) a h1 k1;have hvh:=hρ oh (by simp[ho,Op.operands]) h hh1 k2;have hvm:=hρ mo (by simp[ho,Op.operands]) ms hms k3;cases hdh:(J h).d<;>simp only[hdh]at k4;cases hdm:(J ms).d<;>simp only[hdm]at k4;rename_i kh nh km nm;rw[hdh]at hvh;rw[hdm]at hvm;obtain⟨p1,p2,p3⟩:=k4;cases hd:(J a).d<;>simp only[hd]at p3
   ·
    rw[hd]at hv;simp only[aG.val,hd,hdh];have e0:ev p=.slice none 0 0:=by generalize ev p=vp at hv;cases hv;rfl
    have b1:=pP (C:=C) (x:=x) (len:=0) (cap:=0) hvh.dD hvm.dD p1 p2 ae;refine ep (v:=.slice none 0 0) ?_ .aB;have z1:nh.toNat=0:=ae;have z2:nm.toNat=0:=ae;rw[z1,z2]at b1;simp[execOp,ho,e0,Instr.sliceAt,Instr.slice,run_underlying hu,b1,dw hce]
   .rename_i k es;rw[hd]at hv;simp only[aG.val,hd,hdh];generalize hep:ev p=vp at hv;have hv2:=hv;cases hv with
    |sl aa b off len cap _ _ c hlen ha hcap hm hk hn hc' hone hh'=>
     subst hlen;have b1:=pP (C:=C) (x:=x) (len:=es.length) (cap:=cap) hvh.dD hvm.dD p1 p2 ae;refine ep (v:=.slice (if nm.toNat=0 then aa else aa.map (·.add (0*C.P.cellsOf e))) nh.toNat nm.toNat) ?_ ?_
     .simp[execOp,ho,hep,Instr.sliceAt,Instr.slice,run_underlying hu,b1,dw hce]
     .rw[<-p3.1];exact OX hv2 ae ae
   .rename_i L' k i n;rw[hd]at hv;simp only[aG.val,hd,hdh];obtain⟨k5,k6⟩:=p3;obtain⟨aa,cap,he,hle0,hr⟩:=Ly hv;have b1:=pP (C:=C) (x:=x) (len:=n) (cap:=cap) hvh.dD hvm.dD p1 p2 ae;refine ep ?_ (hr nh.toNat nm.toNat ae ae);simp only[execOp,ho,he,Instr.sliceAt,Instr.slice,run_underlying hu,Sem.run_bind,Result.andThen_ok,Option.map_none,Option.map_some,b1,dw hce,Sem.run_pure,k5,Nat.sub_zero]
  .cases hc
 |fieldAddr t p fi=>
  simp only[CC.op,ho]at hc;split at hc
  .rename_i fs a hu h1;split at hc
   .rename_i fl hfl;split at hc
    .cases hc
    rename_i hce;simp only[aZ]at hc;subst hc;obtain⟨k1,k2⟩:=hob;have hv:=hρ p (by simp[ho,Op.operands,Call.operands]) a h1 k1;have hrun:∀(b c:Nat),ev p=.pointer (some ⟨b,c,none⟩)->(execOp ev o).run C.P x.w=.ok (.value (.pointer (some ⟨b,c+fl.offset,none⟩))) x.w:=by
     intro b c he;simp[execOp,ho,he,Instr.fieldAt,run_underlying hu,hfl,Instr.sureAddr,fieldPlace,dw hce,hce,Addr.wC]
    cases hd:(J a).d<;>simp only[hd]at k2
    .rename_i k es i o';rw[hd]at hv;simp only[aG.val,hd];generalize hep:ev p=vp at hv;cases hv with
     |ref b off _ _ _ at_ _ c hI hat hk hn hc' h1' hh'=>
      exact ep (hrun _ _ hep) (.ref b off k i (o'+fl.offset) _ es c hI ae hk hn hc' h1' hh')
    .rename_i l k i o';rw[hd]at hv;simp only[aG.val,hd];generalize hep:ev p=vp at hv;cases hv with
     |ptr _ _ _ _ b base tot at_ hβ hat=>
      exact ep (hrun _ _ hep) (.ptr l k i (o'+fl.offset) b base tot _ hβ ae)
   .cases hc
  .cases hc
 |field t p fi=>
  simp only[CC.op,ho]at hc;split at hc
  .rename_i fs a hu h1;split at hc
   .rename_i fl hfl;split at hc
    .cases hc
    rename_i hce;simp only[aZ]at hc;subst hc;obtain⟨k1,k2⟩:=hob;have hv:=hρ p (by simp[ho,Op.operands,Call.operands]) a h1 k1;cases hd:(J a).d<;>simp only[hd]at k2;rename_i ds;rw[hd]at hv;generalize hep:ev p=vp at hv;have hv2:=hv;cases hv with
    |agg cs _ _ _ _=>
     obtain⟨v,r1,r2⟩:=mD (P:=C.P) (t:=fl.type) (off:=fl.offset) (n:=C.P.cellsOf fl.type) (ag:=cx C.P fl.type) x.w hv2 (fun e=>hce (.inl e)) (by cases hn:(C.P.underlying fl.type).isNone with|false=>rfl|true=>exact absurd (.inr hn) hce) rfl rfl k2.1 k2.2;refine ep (v:=v) ?_ (by simp only[aG.val,hd,D.cells];exact r2);simp[execOp,ho,hep,Instr.field,run_underlying hu,hfl,asAgg,r1]
   .cases hc
  .cases hc
 |indexAddr t p q=>
  simp only[CC.op,ho]at hc;split at hc
  .rename_i e a b hu h1 h2;split at hc
   .cases hc
   rename_i hce;simp only[aZ]at hc;subst hc;obtain⟨k1,k2,k3⟩:=hob;have hv:=hρ p (by simp[ho,Op.operands,Call.operands]) a h1 k1;have hw:=hρ q (by simp[ho,Op.operands,Call.operands]) b h2 k2;cases hd2:(J b).d<;>cases hd:(J a).d<;>simp only[hd,hd2]at k3
   .rename_i kk n k es;rw[hd]at hv;rw[hd2]at hw;obtain⟨k4,k5,k6⟩:=k3;simp only[aG.val,hd,hd2];generalize hep:ev p=vp at hv;cases hv with
    |sl aa b' off len cap _ _ c hlen ha hcap hm hk hn hc' hone hh'=>
     rcases ha with rfl|⟨rfl,hI⟩
     .simp at k6;omega
     .refine ep (v:=.pointer (some ⟨b',off+n.toNat*C.P.cellsOf e,none⟩)) ?_ ?_
      .simp[execOp,ho,hep,hw.dD,Instr.indexAt,asIntOf,run_underlying hu,hlen,k5,k6,dw hce,Addr.wC]
      .subst hlen;exact .ref b' off k n.toNat 0 _ es c hI (by rw[k4];omega) hk hn hc' hone hh'
   .rename_i kk n L' k i len;rw[hd]at hv;rw[hd2]at hw;obtain⟨k4,k5,k6⟩:=k3;simp only[aG.val,hd,hd2];generalize hep:ev p=vp at hv;cases hv with
    |own _ _ _ _ b' base tot cap aa hβ ha hcap hm ht=>
     have ha':=ha ae;subst ha';refine ep (v:=.pointer (some ⟨b',base+i*k+n.toNat*C.P.cellsOf e,none⟩)) ?_ ?_
     .simp[execOp,ho,hep,hw.dD,Instr.indexAt,asIntOf,run_underlying hu,k5,k6,dw hce,Addr.wC]
     .exact .ptr L' k (i+n.toNat) 0 b' base tot _ hβ (by rw[Nat.add_mul,k4];omega)
    |own0=>omega
  .rename_i len e a b hu h1 h2;split at hc
   .cases hc
   rename_i hce;simp only[aZ]at hc;subst hc;obtain⟨k1,k2,k3⟩:=hob;have hv:=hρ p (by simp[ho,Op.operands,Call.operands]) a h1 k1;have hw:=hρ q (by simp[ho,Op.operands,Call.operands]) b h2 k2;have hrun:∀(b c:Nat) (kk:IntKind) (n:Int),ev p=.pointer (some ⟨b,c,none⟩)->ev q=.int kk n->0<=n->n<len->(execOp ev o).run C.P x.w=.ok (.value (.pointer (some ⟨b,c+n.toNat*C.P.cellsOf e,none⟩))) x.w:=by
    intro b c kk n he he' g1 g2;simp[execOp,ho,he,he',Instr.indexAt,asIntOf,run_underlying hu,Instr.sureAddr,g1,g2,dw hce,Addr.wC]
   cases hd2:(J b).d<;>cases hd:(J a).d<;>simp only[hd,hd2]at k3
   .rename_i kk n k es i o';rw[hd]at hv;rw[hd2]at hw;simp only[aG.val,hd,hd2];generalize hep:ev p=vp at hv;cases hv with
    |ref b' off _ _ _ at_ _ c hI hat hk hn hc' h1' hh'=>
     exact ep (hrun _ _ _ _ hep hw.dD k3.1 k3.2) (.ref b' off k i (o'+n.toNat*C.P.cellsOf e) _ es c hI ae hk hn hc' h1' hh')
   .rename_i kk n L' k i o';rw[hd]at hv;rw[hd2]at hw;simp only[aG.val,hd,hd2];generalize hep:ev p=vp at hv;cases hv with
    |ptr _ _ _ _ b' base tot at_ hβ hat=>
     exact ep (hrun _ _ _ _ hep hw.dD k3.1 k3.2) (.ptr L' k i (o'+n.toNat*C.P.cellsOf e) b' base tot _ hβ ae)
  .cases hc
 |index t p q=>
  simp only[CC.op,ho]at hc;split at hc
  .rename_i a b hu h1 h2;simp only[aZ]at hc;subst hc;obtain⟨k1,k2,k3⟩:=hob;have hv:=hρ p (by simp[ho,Op.operands,Call.operands]) a h1 k1;have hw:=hρ q (by simp[ho,Op.operands,Call.operands]) b h2 k2;cases hd2:(J b).d<;>cases hd:(J a).d<;>simp only[hd,hd2]at k3;rename_i kk n s;rw[hd]at hv;rw[hd2]at hw;obtain⟨e1,e2⟩:=hv.ie;simp only[aG.val,hd,hd2];have hsz:(⟨⟨s⟩⟩:ByteArray).size=s.length:=rfl;have hlt:n.toNat<s.length:=ae;refine ep (v:=.int .u8 (s.getD n.toNat 0).toNat) ?_ (.int _ _);simp only[execOp,ho,e1,hw.dD,Sem.run_bind,run_index_string x.w t _ kk n hu,hsz];rw[dif_pos k3];simp only[Result.andThen_ok,Sem.run_pure];congr 4;show(((⟨s⟩:Array UInt8)[n.toNat]'hlt)).toNat=_;simp[List.getD,hlt]
  .rename_i len e a b hu h1 h2;split at hc
   .cases hc
   rename_i hce;simp only[aZ]at hc;subst hc;obtain⟨k1,k2,k0,k3⟩:=hob;have hv:=hρ p (by simp[ho,Op.operands,Call.operands]) a h1 k1;have hw:=hρ q (by simp[ho,Op.operands,Call.operands]) b h2 k2;cases hd2:(J b).d<;>cases hd:(J a).d<;>simp only[hd,hd2]at k3;rename_i kk n ds;rw[hd]at hv;rw[hd2]at hw;generalize hep:ev p=vp at hv;have hv2:=hv;cases hv with
   |agg cs _ _ _ _=>
    have hb:n.toNat*C.P.cellsOf e+C.P.cellsOf e<=ds.length:=by
     rw[k3.2.2,<-Nat.succ_mul];exact iN _ ae
    obtain⟨v,r1,r2⟩:=mD (P:=C.P) (t:=e) (off:=n.toNat*C.P.cellsOf e) (n:=C.P.cellsOf e) (ag:=cx C.P e) x.w hv2 (fun e=>hce (.inl e)) (by cases hn:(C.P.underlying e).isNone with|false=>rfl|true=>exact absurd (.inr hn) hce) rfl rfl hb k0;refine ep (v:=v) ?_ (by simp only[aG.val,hd,hd2,D.cells];exact r2);simp[execOp,ho,hep,hw.dD,Instr.index,asIntOf,run_underlying hu,k3.1,k3.2.1,dw (fun e=>hce (.inl e)),r1]
  .cases hc
 |extract p n=>
  simp only[CC.op,ho,cW]at hc;obtain⟨s,h1,rfl⟩:=hc;obtain⟨k1,k2⟩:=hob;have hv:=hρ p (by simp[ho,Op.operands,Call.operands]) s h1 k1;cases hd:(J s).d<;>simp only[hd]at k2;rw[hd]at hv;generalize hep:ev p=vp at hv;cases hv with
  |tup cs _ hl hh=>
   have hlt:n<cs.size:=ae;refine ep (v:=cs.getD n undef) ?_ (by simp only[aG.val,hd];exact hh n k2);simp[execOp,ho,hep,Instr.extract,Array.getElem?_eq_getElem hlt,Array.getD,hlt]
 |call c=>
  obtain⟨callee,args,argTypes⟩:=c;cases callee with
  |builtin bu=>
   cases bu with
   |len=>
    simp only[CC.op,ho]at hc;split at hc
    .rename_i p t hargs htys;have hargs':args=#[p]:=by apply Array.ext';simpa using hargs
     have htys':argTypes=#[t]:=by apply Array.ext';simpa using htys
     subst hargs';subst htys';split at hc
     .rename_i a h1 hu;simp only[aZ]at hc;subst hc;obtain⟨k1,k2⟩:=hob;have hv:=hρ p (by simp[ho,Op.operands,Call.operands]) a h1 k1;have hrun:∀s,ev p=.string s->(execOp ev o).run C.P x.w=.ok (.value (.int .i64 s.size)) x.w:=by
       intro s he;simp[execOp,ho,resolve,invoke,builtin,Builtin.len_,he,run_underlying hu,goInt]
      cases hd:(J a).d<;>simp only[hd]at k2
      .rw[hd]at hv;simp only[aG.val,hd];exact ep (hrun _ hv.ie.1) (.int _ _)
     .rename_i a e h1 hu;simp only[aZ]at hc;subst hc;obtain⟨k1,k2⟩:=hob;have hv:=hρ p (by simp[ho,Op.operands,Call.operands]) a h1 k1;have hrun:∀b n cc,ev p=.slice b n cc->(execOp ev o).run C.P x.w=.ok (.value (.int .i64 n)) x.w:=by
       intro b n cc he;simp[execOp,ho,resolve,invoke,builtin,Builtin.len_,he,run_underlying hu,goInt]
      cases hd:(J a).d<;>simp only[hd]at k2
      .rw[hd]at hv;simp only[aG.val,hd];generalize hep:ev p=vp at hv;cases hv;exact ep (hrun _ _ _ hep) (.int _ _)
      .rw[hd]at hv;simp only[aG.val,hd];generalize hep:ev p=vp at hv;cases hv with
       |sl aa b off len cap _ _ cf hlen ha hcap hm hk hn hc' hone hh'=>
        subst hlen;exact ep (hrun _ _ _ hep) (.int _ _)
      .rw[hd]at hv;simp only[aG.val,hd];generalize hep:ev p=vp at hv;cases hv with
       |own _ _ _ _ b base tot cap aa hβ ha hcap hm ht=>
        exact ep (hrun _ _ _ hep) (.int _ _)
       |own0=>exact ep (hrun _ _ _ hep) (.int _ _)
     .cases hc
    .cases hc
   |min=>
    simp only[CC.op,ho]at hc;split at hc
    .rename_i p q hargs;have hargs':args=#[p,q]:=by apply Array.ext';simpa using hargs
     subst hargs';split at hc
     .rename_i a b h1 h2;simp only[aZ]at hc;subst hc;obtain⟨k1,k2,k3⟩:=hob;have hv:=hρ p (by simp[ho,Op.operands,Call.operands]) a h1 k1;have hw:=hρ q (by simp[ho,Op.operands,Call.operands]) b h2 k2;cases hd:(J a).d<;>cases he:(J b).d<;>simp only[hd,he]at k3;rw[hd]at hv;rw[he]at hw;simp only[aG.val,hd,he];refine ep ?_ (.int _ _);simp[execOp,ho,resolve,invoke,builtin,Builtin.min_,Builtin.min2,hv.dD,hw.dD]
     .cases hc
    .cases hc
   |append=>simp only[CC.op,ho]at hc;(repeat' split at hc)<;>simp_all[aG.pure]<;>(subst hc;simp_all[aG.pure])
   |_=>simp[CC.op,ho]at hc
  |value f=>
   cases f with
   |func fid=>simp only[CC.op,ho]at hc;(repeat' split at hc)<;>simp_all[aG.pure]<;>(subst hc;simp_all[aG.pure])
   |tmp t=>simp only[CC.op,ho]at hc;(repeat' split at hc)<;>simp_all[aG.pure]<;>(subst hc;simp_all[aG.pure])
   |_=>simp[CC.op,ho]at hc
  |invoke r n=>
   simp only[CC.op,ho]at hc;split at hc
   .simp only[cW]at hc;obtain⟨_,_,rfl⟩:=hc;simp[aG.pure]at hp
   .cases hc
 |alloc t=>simp only[CC.op,ho]at hc;(repeat' split at hc)<;>simp_all[aG.pure]<;>(subst hc;simp_all[aG.pure])
 |box t p=>simp only[CC.op,ho]at hc;(repeat' split at hc)<;>simp_all[aG.pure]<;>(subst hc;simp_all[aG.pure])
 |buildSlice t n ps=>simp only[CC.op,ho]at hc;(repeat' split at hc)<;>simp_all[aG.pure]<;>(subst hc;simp_all[aG.pure])
 |load t p=>
  simp only[CC.op,ho]at hc;split at hc
  .rename_i d hg;obtain rfl:=bg hc;cases p with
   |global g=>
    simp only[CC.Ih]at hg;split at hg
    .rename_i hh;obtain rfl:=bg hg;obtain⟨h1,h2,h3,h4⟩:=hh;have hcell:=dq.gzr x g hs.gd (hgz g h1);obtain⟨v,r1,r2⟩:=m7 (ν:=C.ν) (x:=x) (P:=C.P) (e:=zVD) (k:=5) (n:=5) (o:=0) (b:=g) (at0:=0) (ag:=true) (ty:=t) (c:=MY) rfl ae
      (fun j hj=>⟨by simpa using hcell j hj,by unfold MY;split<;>rfl,by
        unfold MY zVD
        match j,hj with
        |0,_=>exact .int _ _
        |1,_=>exact .int _ _
        |2,_=>exact .int _ _
        |3,_=>exact .str [] bh
        |4,_=>exact .str [] bh⟩) h2.symm ae h4 h3.symm (fun h=>by cases h)
     refine ep (v:=v) ?_ (by simp only[aG.val,hcst];exact r2);have hev:ev (.global g)=.pointer (some ⟨g,0,none⟩):=hgl g;simp[execOp,ho,hev,Instr.loadAt,Instr.sureAddr,r1]
    .cases hg
   |_=>simp[CC.Ih]at hg
  ·(repeat' split at hc)<;>simp_all[aG.pure]<;>(subst hc;simp_all[aG.pure])
 |makeSlice t a b=>simp only[CC.op,ho]at hc;(repeat' split at hc)<;>simp_all[aG.pure]<;>(subst hc;simp_all[aG.pure])
 |range t p=>simp only[CC.op,ho]at hc;(repeat' split at hc)<;>simp_all[aG.pure]<;>(subst hc;simp_all[aG.pure])
 |next it b=>
  cases b
  .simp[CC.op,ho]at hc
  .simp only[CC.op,ho,cW]at hc;obtain⟨s,h1,rfl⟩:=hc;simp[aG.pure]at hp
 |_=>simp[CC.op,ho]at hc
def Lv {o:Oper}{i:aG}(hgz:∀g,C.cC.contains (500000000+g)=true->dq.gz g)(hcst:∀d,J (.c d)=⟨true,d⟩)(hsm:∀fid n,dr C.ν fid=some n->n<1000000)(hc:C.op defs o=some i)(hp:i.pure=true)(hρ:pI C defs J ev x o.op.operands.toList)(hob:i.dF Y J m)(hs:eG C.ν x f)(hgl:∀g,ev (.global g)=.pointer (some ⟨g,0,none⟩)):
  wA C.ν x f L (i.val Y J m L) ((execOp ev o).run C.P x.w):=(As hgz hcst hsm hc hp hρ hob hs hgl).did hs
end
end
abbrev cg (Y:Ctx)(n:Nat)(ds:List D)(d:D):Prop:=Y.pre n ds/\Y.val n ds=d
section
variable [dq]
def m4 {α:Type}(l:List α)(j:Nat)(d:α)(h:j<l.length):l.getD j d=l[j]:=by simp[List.getD,h]
def IY (cs new:List D)(o:Nat)(h:o+new.length<=cs.length):(over cs o new).length=cs.length:=by
 grind [over]
def Gv (cs new:List D)(o:Nat)(h:o+new.length<=cs.length)(j:Nat)(d:D):(over cs o new).getD j d=if o<=j/\j<o+new.length then new.getD (j-o) d else cs.getD j d:=by
 grind [over]
theorem c9 (m:List (Nat×bM))(L:Nat)(b:bM)(l:Nat):look (cS m L b) l=if l=L then some b else look m l:=by
 induction m with
 |nil=>by_cases h:l=L<;>simp[cS,look,h,eq_comm]<;>omega
 |cons p r ih=>
  grind [cS,look]
def gu (m:List (Nat×bM))(k l:Nat):look (ct m k) l=if l=k then none else look m l:=by
 induction m with
 |nil=>simp[ct,look]
 |cons p r ih=>
  grind [ct,look]
def iB (f:Nat->Option bM)(ws:List Nat)(m':List (Nat×bM)):Nat->Option bM:=fun l=>if l∈ws then look m' l else f l
section
variable {ν:List (Nat×Nat)} {x:X} {P:Program}
def ma (b:Nat):∀(vs:List Value) (o:Nat) (w:World) (c:Array Value) (T:TypeId) (fr:Nat×Nat),w.heap[b]? =some (.cells c T fr)->o+vs.length<=c.size->
  ∃c',(w.setCells b o vs).heap[b]? =some (.cells c' T fr)/\c'.size=c.size/\∀q,c'.getD q undef=if o<=q/\q<o+vs.length then vs.getD (q-o) undef else c.getD q undef
 |[],o,w,c,T,fr,h,_=>⟨c,by simpa[World.setCells]using h,rfl,fun q=>by rw[ai (fun e=>by have:=e.1;have:=e.2;simp at this;omega)]⟩
 |v::r,o,w,c,T,fr,h,hl=>by
  simp only[bA]at hl;have h1:(w.setCell ⟨b,o,none⟩ v).heap[b]? =some (.cells (c.setIfInBounds o v) T fr):=by
   simp[World.setCell,Array.getElem?_modify,h]
  obtain⟨c',g1,g2,g3⟩:=ma b r (o+1) _ _ T fr h1 eo;refine⟨c',by simpa[World.setCells]using g1,by simpa using g2,fun q=>?_⟩;rw[g3 q];simp only[bA];by_cases q1:o+1<=q/\q<o+1+r.length
  .rw[aw q1,aw ae,show q-o=(q-(o+1))+1 by omega];simp
  .rw[ai q1];by_cases q2:q=o
   .subst q2;rw[aw ae];simp[Array.getD,show q<c.size by omega]
   .rw[ai ae];rw[<-cw,<-cw];simp[List.getD,List.getElem?_set,show ¬o=q by omega]
def lu (b:Nat):∀(vs:List Value) (o:Nat) (w:World) (b':Nat),b'≠b->(w.setCells b o vs).heap[b']? =w.heap[b']?
 |[],o,w,b',_=>rfl
 |v::r,o,w,b',h=>by
  rw[show w.setCells b o (v::r)=(w.setCell ⟨b,o,none⟩ v).setCells b (o+1) r from rfl,lu b r (o+1) _ b' h];simp[World.setCell,Array.getElem?_modify,show b≠b' by omega]
def lr (b:Nat):∀(vs:List Value) (o:Nat) (w:World),(w.setCells b o vs).os=w.os/\(w.setCells b o vs).tape=w.tape/\(w.setCells b o vs).output=w.output/\(w.setCells b o vs).heap.size=w.heap.size
 |[],o,w=>⟨rfl,rfl,rfl,rfl⟩
 |v::r,o,w=>by
  have:=lr b r (o+1) (w.setCell ⟨b,o,none⟩ v);exact⟨this.1,this.2.1,this.2.2.1,by rw[show w.setCells b o (v::r)=(w.setCell ⟨b,o,none⟩ v).setCells b (o+1) r from rfl,this.2.2.2];simp⟩
def cell_of_heap {w:World}{b o:Nat}{c:Array Value}{T:TypeId}{fr:Nat×Nat}(h:w.heap[b]? =some (.cells c T fr))(ho:o<c.size):w.cell? ⟨b,o,none⟩=some (c.getD o undef):=by
 rw[cell_of_row w b o c T fr h];simp[Array.getD,ho]
def pJ {f:Nat->Option bM}{m:List (Nat×bM)}{l k n:Nat}(hs:eG ν x f)(hf:f l=look m l)(hb:eg m l k n):
  f l=some (.buf k (aW m l))/\n<=(aW m l).length/\look m l=some (.buf k (aW m l)):=by
 grind [eg,aW,look]
theorem gO {i k tot j:Nat}(hi:i<tot)(hj:j<k):i*k+j<tot*k:=by
 have:(i+1)*k<=tot*k:=iN _ hi;rw[Nat.succ_mul]at this;omega
def ye (f:Nat->Option bM)(m:List (Nat×bM)):Option (List Nat)->Prop
 |none=>∀l,look m l≠none->f l=look m l
 |some ls=>∀l,l∈ls->f l=look m l
def mV {f f':Nat->Option bM}{L tot:Nat}{w':World}{blk:bM}{v:Value}{d:D}{r:Result Next}(hs:eG ν x f)(hL:x.β L=none)(hw:hH x.w w')(hnw:x.w.heap.size<w'.heap.size)
  (hb:lO ν ⟨w',x.I,eX x.β L (x.w.heap.size,0,tot)⟩ x.w.heap.size 0 tot blk) (hv:RD ν ⟨w',x.I,eX x.β L (x.w.heap.size,0,tot)⟩ v d)
  (hr:r=.ok (.value v) w') (hf:∀l,f' l=j9 f L (some blk) l):wA ν x f' L d r:=by
 have e:f'=j9 f L (some blk):=funext hf;subst e;exact⟨v,⟨w',x.I,eX x.β L (x.w.heap.size,0,tot)⟩,.inl hr,vY hw (aE _) hL hs.imm,hv,L5 hs hw (aE _) hnw hL hb,fun l hl=>by simp[eX,hl]⟩
def qz {n:Nat}{w':World}{L tot k:Nat}{c:Array Value}{T:TypeId}{fr:Nat×Nat}{es:List D}(x':X)(hx:x'.w.heap[n]? =some (.cells c T fr))(hk:0<k)(ht:es.length<=tot)(hc:tot*k<=c.size)
  (hfr:∀o,o<c.size->¬(fr.1<=o/\o<fr.2))
  (he:∀i,i<es.length->(es.getD i .any).cells.length=k/\∀j,j<k->(c.getD (i*k+j) undef).oneCell'=true/\RD ν x' (c.getD (i*k+j) undef) ((es.getD i .any).cells.getD j .any)):
  lO ν x' n 0 tot (.buf k es):=
 ⟨hk,ht,c,T,fr,hx,ae,hfr,fun i hi=>⟨(he i hi).1,fun j hj=>by simpa using(he i hi).2 j hj⟩⟩
end
section
variable {x:X} {f:Nat->Option bM} {C:CC} {defs:List (Option Nat)} {J:Src->b8} {ev:Operand->Value} {Y:Ctx} {m:List (Nat×bM)} {L:Nat}
def yy (hs:eG C.ν x f){w':World}{tot:Nat}(hw:hH x.w w')(hL:x.β L=none):Le x ⟨w',x.I,eX x.β L (x.w.heap.size,0,tot)⟩:=
 (vY hw (aE _) hL hs.imm).le
def Dr {v:Value}{d:D}{k:Nat}{T:TypeId}{r:Result Next}(hs:eG C.ν x f)(hL:x.β L=none)(hv:RD C.ν x v d)(hk:d.cells.length=k)(hk0:k≠0)
  (hr:r=.ok (.value (.pointer (some ⟨x.w.heap.size,0,none⟩))) (x.w.alloc (.cells v.cells T))):
  wA C.ν x (iB f [L] (cS m L (.buf k [d]))) L (.ptr L k 0 0) r:=by
 have hw:=hH.alloc x.w (.cells v.cells T);have hle:=yy (tot:=1) hs hw hL;obtain⟨c1,c2⟩:=hv.cells ae;refine mV (tot:=1) (blk:=.buf k [d]) hs hL hw bh ?_ (.ptr L k 0 0 x.w.heap.size 0 1 0 (by simp[eX]) bh) hr (fun l=>?_)
 .refine qz (w':=x.w) (L:=L) _ (fk x.w _) ae bh ae (fun o _=>bh) (fun i hi=>?_);simp at hi;subst hi;refine⟨by simpa using hk,fun j hj=>?_⟩;have:=c2 j ae;exact⟨by simpa using this.1,by simpa using this.2.mono hle⟩
 grind [iB,c9,j9]
def K0 {v:Value}{r:Result Next}(hs:eG C.ν x f)(hL:x.β L=none)(hv:RD C.ν x v (.agg [.nilp,.aB]))
  (hr:r=.ok (.value (.pointer (some ⟨x.w.heap.size,0,none⟩))) (x.w.alloc (.cells v.cells dq.tB))):
  wA C.ν x (iB f [L] (cS m L (.bld none 0 false))) L (.ptr L 2 0 0) r:=by
 have hw:=hH.alloc x.w (.cells v.cells dq.tB);refine mV (tot:=1) (blk:=.bld none 0 false) hs hL hw bh ?_ (.ptr L 2 0 0 x.w.heap.size 0 1 0 (by simp[eX]) bh) hr (fun l=>?_)
 .refine⟨rfl,.slice none 0 0, ?_,rfl,rfl⟩;refine(fk x.w _).trans ?_;cases hv with
  |agg cs _ hl h1 h=>
   have e0:=h 0 bh;have e1:=h 1 bh;simp only[gW,List.getD_cons_succ]at e0 e1;have hl2:cs.size=2:=hl;have hcs:cs=#[.pointer none,.slice none 0 0]:=by
    apply Array.ext
    .simpa using hl2
    .intro i hi1 hi2;have hi:i=0\/i=1:=ae;rcases hi with rfl|rfl
     .generalize hq:cs.getD 0 undef=q at e0;cases e0;simp[Array.getD,hi1]at hq;simpa using hq
     .generalize hq:cs.getD 1 undef=q at e1;cases e1;simp[Array.getD,hi1]at hq;simpa using hq
   subst hcs;rfl
 .by_cases e:l=L
  .subst e;simp[iB,c9,j9]
  .simp[iB,e,j9]
def Ds {v:Value}{T:TypeId}{r:Result Next}(hs:eG C.ν x f)(hr:r=.ok (.value (.pointer (some ⟨x.w.heap.size,0,none⟩))) (x.w.alloc (.cells v.cells T))):wA C.ν x f L (.fn 4700000 []) r:=
 ⟨_,⟨x.w.alloc (.cells v.cells T),x.I,x.β⟩,.inl hr,.grow (hH.alloc _ _) hs.imm,.zp _,hs.grow (hH.alloc _ _),fun _ _=>rfl⟩
def IN {o:Oper}{i:aG}(hc:C.op defs o=some i)(ho:(∃t,o.op=.alloc t)\/∃t p,o.op=.box t p)(hρ:pI C defs J ev x o.op.operands.toList)(hcst:∀d,J (.c d)=⟨true,d⟩)(hob:i.dF Y J m)(hs:eG C.ν x f)(hL:x.β L=none)(hB:∀t,C.cC.contains (1000000000+t)=true->t=dq.tB):
  wA C.ν x (iB f (i.wr J L) (i.cC Y J m L)) L (i.val Y J m L) ((execOp ev o).run C.P x.w):=by
 rcases ho with⟨t,ho⟩|⟨t,p,ho⟩
 .simp only[CC.op,ho]at hc;split at hc
  .rename_i z hz;obtain⟨ti,v,hi,hzv,hr⟩:=kW (x:=x) hz;split at hc
   .obtain rfl:=bg hc;exact Ds (v:=v) (T:=t) hs (by simp[execOp,ho,Instr.alloc,zeroValue,typeInfo,hi,hzv,newVar,newRow])
   rename_i hce;split at hc
   .rename_i hB0;split at hc
    .simp only[aZ]at hc;subst hc;exact K0 hs hL hr (by rw[<-hB t hB0];simp[execOp,ho,Instr.alloc,zeroValue,typeInfo,hi,hzv,newVar,newRow])
    .cases hc
   simp only[aZ]at hc;subst hc;obtain⟨k1,k2⟩:=hob;simp only[hcst]at k2;have e:(aG.box (C.P.cellsOf t) (.c z)).cC Y J m L=cS m L (.buf (C.P.cellsOf t) [z]):=by simp[aG.cC,hcst]
   rw[e];refine Dr (T:=t) hs hL hr k2 hce ?_;simp[execOp,ho,Instr.alloc,zeroValue,typeInfo,hi,hzv,newVar,newRow]
  .cases hc
 .simp only[CC.op,ho]at hc;split at hc
  .rename_i s h1;split at hc
   .obtain rfl:=bg hc;exact Ds (v:=ev p) (T:=t) hs (by simp[execOp,ho,Instr.box,newVar,newRow])
   rename_i hce;simp only[aZ]at hc;subst hc;obtain⟨k1,k2⟩:=hob;exact Dr (T:=t) hs hL (hρ p (by simp[ho,Op.operands,Call.operands]) s h1 k1) k2 hce (by simp[execOp,ho,Instr.box,newVar,newRow])
  .cases hc
def Ar {o:Oper}{i:aG}{t:TypeId}{p:Operand}(hpu:¬i.pure=true)(hsm:∀fid n,dr C.ν fid=some n->n<1000000)(hc:C.op defs o=some i)(ho:o.op=.load t p)(hρ:pI C defs J ev x o.op.operands.toList)(hob:i.dF Y J m)(hs:eG C.ν x f)(hag:ye f m (i.kV J)):
  zk C.ν x (i.val Y J m L) ((execOp ev o).run C.P x.w):=by
 simp only[CC.op,ho]at hc;split at hc
 .obtain rfl:=bg hc;exact absurd rfl hpu
 split at hc
 .rename_i s h1;split at hc
  .cases hc
  rename_i hce;simp only[aZ]at hc;subst hc;obtain⟨k1,k2⟩:=hob;have hv:=hρ p (by simp[ho,Op.operands,Call.operands]) s h1 k1;have hn0:C.P.cellsOf t≠0:=fun e=>hce (.inl e)
  have hu:(C.P.underlying t).isNone=false:=by cases hn:(C.P.underlying t).isNone with|false=>rfl|true=>exact absurd (.inr (.inl hn)) hce
  have h1':cx C.P t=false->C.P.cellsOf t=1:=fun e=>by
   rcases Nat.decEq (C.P.cellsOf t) 1 with h|h
   .exact absurd (.inr (.inr ⟨e,h⟩)) hce
   .exact h
  cases hd:(J s).d<;>simp only[hd,wO]at k2
  .rename_i k es i o';rw[hd]at hv;generalize hep:ev p=vp at hv;cases hv with
   |ref b off _ _ _ at_ _ c hI hat hk hn hcc hone hh=>
    obtain⟨v,r1,r2⟩:=m7 (P:=C.P) (ν:=C.ν) (x:=x) (e:=es.getD i .any) (k:=k) (n:=C.P.cellsOf t) (o:=o') (b:=b) (at0:=off+i*k) (ag:=cx C.P t) (ty:=t) (c:=c i) (hk i k2.1) k2.2
     (fun j hj=>⟨hcc i j k2.1 hj,hone i j k2.1 hj,hh i j k2.1 hj⟩) rfl hn0 hu rfl h1'
    refine ep (v:=v) ?_ (by simp only[aG.val,hd,tS];exact r2);simp[execOp,ho,hep,Instr.loadAt,Instr.sureAddr,hat,r1]
  .rename_i l k i o';rw[hd]at hv;generalize hep:ev p=vp at hv;cases hv with
   |ptr _ _ _ _ b base tot at_ hβ hat=>
    obtain⟨g1,g2,g3⟩:=pJ (n:=i+1) hs (hag l (by simp[hd,cZ])) k2.1;obtain⟨hnI,hk0,ht,c,T,fr,q1,q2,q3,q4⟩:=hs.own l _ b base tot g1 hβ;have hi:i<(aW m l).length:=ae;obtain⟨v,r1,r2⟩:=m7 (P:=C.P) (ν:=C.ν) (x:=x) (e:=(aW m l).getD i .any) (k:=k) (n:=C.P.cellsOf t) (o:=o') (b:=b) (at0:=base+i*k) (ag:=cx C.P t) (ty:=t) (c:=fun j=>c.getD (base+i*k+j) undef)
     ((q4 i hi).1) k2.2
     (fun j hj=>⟨cell_of_heap q1 (by have:=gO (tot:=tot) (show i<tot by omega) hj;omega),((q4 i hi).2 j hj).1,((q4 i hi).2 j hj).2⟩) rfl hn0 hu rfl h1'
    refine ep (v:=v) ?_ (by simp only[aG.val,hd,tS];exact r2);simp[execOp,ho,hep,Instr.loadAt,Instr.sureAddr,hat,r1]
  .rename_i q es;obtain⟨hq2,e1,e2,e3⟩:=k2;rw[hd]at hv;generalize hep:ev p=vp at hv;cases hv with
   |mp=>exfalso;omega
   |ifc=>exfalso;omega
   |ifn=>exfalso;omega
   |zp=>exfalso;omega
   |fn fid _ cs ds hν=>exact absurd (hsm _ _ hν) ae
   |dW fid _ cs ds hν=>exact absurd (hsm _ _ hν) ae
   |bx b at_ _ v0 hI hc0 h1 hl hh=>
    obtain⟨v,r1,r2⟩:=m7 (P:=C.P) (ν:=C.ν) (x:=x) (e:=es.getD 0 .any) (k:=1) (n:=C.P.cellsOf t) (o:=0) (b:=b) (at0:=at_) (ag:=cx C.P t) (ty:=t) (c:=fun _=>v0) (by rw[e3];rfl) ae
     (fun j hj=>by obtain rfl:j=0:=ae;exact⟨hc0,h1,by rw[e3];exact hh 0 ae⟩) rfl hn0 hu rfl h1'
    refine ep (v:=v) ?_ (by simp only[aG.val,hd,tS];exact r2);simp only[Nat.add_zero]at r1;simp[execOp,ho,hep,Instr.loadAt,Instr.sureAddr,r1]
 .cases hc
def Ls {o:Oper}{i:aG}{t:TypeId}{p:Operand}(hpu:¬i.pure=true)(hsm:∀fid n,dr C.ν fid=some n->n<1000000)(hc:C.op defs o=some i)(ho:o.op=.load t p)(hρ:pI C defs J ev x o.op.operands.toList)(hob:i.dF Y J m)(hs:eG C.ν x f)(hag:ye f m (i.kV J)):
  wA C.ν x (iB f (i.wr J L) (i.cC Y J m L)) L (i.val Y J m L) ((execOp ev o).run C.P x.w):=by
 have haf:iB f (i.wr J L) (i.cC Y J m L)=f:=by
  have hw:i.wr J L=[]:=by
   simp only[CC.op,ho]at hc
   (repeat' split at hc)<;>simp only[aZ,reduceCtorEq]at hc<;>subst hc<;>rfl
  funext l;simp[iB,hw]
 rw[haf];exact(Ar hpu hsm hc ho hρ hob hs hag).did hs
def IT {o:Oper}{i:aG}{t:TypeId}{p q:Operand}(hpu:¬i.pure=true)(hc:C.op defs o=some i)(ho:o.op=.store t p q)(hρ:pI C defs J ev x o.op.operands.toList)(hob:i.dF Y J m)(hs:eG C.ν x f)(hag:ye f m (i.kV J)):
  wA C.ν x (iB f (i.wr J L) (i.cC Y J m L)) L (i.val Y J m L) ((execOp ev o).run C.P x.w):=by
 simp only[CC.op,ho]at hc;split at hc
 .rename_i s u h1 h2;split at hc
  .split at hc
   .obtain rfl:=bg hc;exact absurd rfl hpu
   .cases hc
  rename_i hce;simp only[aZ]at hc;subst hc;obtain⟨k1,k2,k3,k4⟩:=hob;have hv:=hρ p (by simp[ho,Op.operands,Call.operands]) s h1 k1;have hw:=hρ q (by simp[ho,Op.operands,Call.operands]) u h2 k2;cases hd:(J s).d<;>simp only[hd]at k4;rename_i l k i o';rw[hd]at hv;generalize hep:ev p=vp at hv;cases hv with
  |ptr _ _ _ _ b base tot at_ hβ hat=>
   obtain⟨g1,g2,g3⟩:=pJ (n:=i+1) hs (hag l (by simp[hd,cZ])) k4.1;obtain⟨hnI,hk0,ht,c,T,fr,q1,q2,q3,q4⟩:=hs.own l _ b base tot g1 hβ;have hi:i<(aW m l).length:=ae;obtain⟨c1,c2⟩:=hw.cells ae;have hnl:(ev q).cells.toList.length=C.P.cellsOf t:=eo;have hin:∀j,j<C.P.cellsOf t->base+i*k+o'+j<c.size:=fun j hj=>by
    have:=gO (tot:=tot) (i:=i) (k:=k) (j:=o'+j) ae ae;omega
   have hst:=run_storeCells_cells (P:=C.P) b (base+i*k+o') (ev q).cells.toList 0 x.w
    (fun j hj=>by rw[cell_of_heap q1 (by have:=hin j ae;omega)];rfl)
    (fun j hj=>by
      have:=q3 (base+i*k+o'+0+j) (by have:=hin j ae;omega);simp only[World.frozen?,q1];simp only[gU,dA];omega)
    (fun v hv=>by
      obtain⟨j,hj,rfl⟩:=List.mem_iff_getElem.1 hv;rw[<-m4 _ j undef hj,cw];exact(c2 j ae).1)
   simp only[Nat.add_zero]at hst;obtain⟨c',s1,s2,s3⟩:=ma b (ev q).cells.toList (base+i*k+o') x.w c T fr q1 (by have:=hin (C.P.cellsOf t-1) ae;omega);obtain⟨f1,f2,f3,f4⟩:=lr b (ev q).cells.toList (base+i*k+o') x.w
   let w':=x.w.setCells b (base+i*k+o') (ev q).cells.toList
   have hother:∀b',b'≠b->w'.heap[b']? =x.w.heap[b']? :=fun b' hb'=>lu b _ _ _ b' hb'
   have hstep:Step x ⟨w',x.I,x.β⟩:=by
    refine⟨f1,f2,f3,by show _<=w'.heap.size;rw[f4];exact aE _,fun _ h=>h,fun b' hb'=>hother b' (fun e=>hnI (e▸hb')),fun _ _ h=>h,fun b' _ hn=>hother b' (fun e=>hn l _ hβ e.symm),fun _ h=>.inl h,fun _ _ h=>.inl h⟩
   let es':=(aW m l).set i (vW ((aW m l).getD i .any) k (C.P.cellsOf t) o' (J u).d)
   have hle:=hstep.le

   have hel:(vW ((aW m l).getD i .any) k (C.P.cellsOf t) o' (J u).d).cells.length=k/\∀j,j<k->
     (vW ((aW m l).getD i .any) k (C.P.cellsOf t) o' (J u).d).cells.getD j .any=if o'<=j/\j<o'+C.P.cellsOf t then(J u).d.cells.getD (j-o') .any else((aW m l).getD i .any).cells.getD j .any:=by
    unfold vW;have hkl:=(q4 i hi).1;cases hnk:((C.P.cellsOf t==k)&&((J u).d.isAgg ||!((aW m l).getD i .any).isAgg))
    .simp only[cond_false];refine⟨(IY _ _ _ ae).trans hkl,fun j hj=>?_⟩;rw[<-k3];exact Gv _ _ _ ae _ _
    .simp only[bm,beq_iff_eq]at hnk;have hnk:=hnk.1;simp only[cond_true];refine⟨ae,fun j hj=>?_⟩;have:o'=0:=ae;subst this;rw[aw ae];simp
   have hblk:lO C.ν ⟨w',x.I,x.β⟩ b base tot (.buf k es'):=by
    refine⟨hk0,by simp[es'];omega,c',T,fr,s1,ae,fun o'' ho''=>q3 o'' ae,fun i' hi'=>?_⟩;have hi2:i'<(aW m l).length:=by simpa[es']using hi'
    by_cases e:i'=i
    .subst e;have hg:es'.getD i' .any=vW ((aW m l).getD i' .any) k (C.P.cellsOf t) o' (J u).d:=by simp[es',List.getD,List.getElem?_set,hi2]
     rw[hg];refine⟨hel.1,fun j hj=>?_⟩;rw[hel.2 j hj,s3];by_cases hj2:o'<=j/\j<o'+C.P.cellsOf t
     .rw[aw ae,aw hj2,show base+i'*k+j-(base+i'*k+o')=j-o' by omega,cw];have:=c2 (j-o') ae;exact⟨this.1,this.2.mono hle⟩
     .rw[ai ae,ai hj2];exact⟨((q4 i' hi2).2 j hj).1,((q4 i' hi2).2 j hj).2.mono hle⟩
    .have hg:es'.getD i' .any=(aW m l).getD i' .any:=by simp[es',List.getD,List.getElem?_set,show ¬i=i' by omega]
     rw[hg];refine⟨(q4 i' hi2).1,fun j hj=>?_⟩;rw[s3];have hne:¬(base+i*k+o'<=base+i'*k+j/\base+i'*k+j<base+i*k+o'+(ev q).cells.toList.length):=by
      rw[hnl];rcases cQ i' i with hlt|hge
      .have:(i'+1)*k<=i*k:=iN _ hlt;rw[Nat.succ_mul]at this;omega
      .have:(i+1)*k<=i'*k:=iN _ ae;rw[Nat.succ_mul]at this;omega
     rw[ai hne];exact⟨((q4 i' hi2).2 j hj).1,((q4 i' hi2).2 j hj).2.mono hle⟩
   refine⟨undef,⟨w',x.I,x.β⟩,.inr ⟨?_,rfl⟩,hstep,.any _, ?_,fun _ _=>rfl⟩
   .have hsz:(ev q).cells.size=C.P.cellsOf t:=ae;simp[execOp,ho,hep,Instr.storeAt,Instr.sureAddr,storeVar,dw hce,hsz,hat,hst,w']
   .have haf:∀l',iB f ((aG.st (C.P.cellsOf t) s u).wr J L) ((aG.st (C.P.cellsOf t) s u).cC Y J m L) l'=j9 f l (some (.buf k es')) l':=by
     intro l';simp only[iB,aG.wr,hd,cZ,aG.cC,bo,c9,j9,es'];by_cases e:l'=l
     .rw[aw e,aw e,aw e]
     .rw[ai e,ai e]
    refine⟨fun l' blk b' base' tot' e1 e2=>?_,fun l1 l2 b' base' tot' base'' tot'' e1 e2 e3 e4=>?_,fun b' hb'=>by show b'<w'.heap.size;rw[f4];exact hs.imm b' hb',fun l' b' base' tot' e=>by show b'<w'.heap.size;rw[f4];exact hs.dW l' b' base' tot' e,qM hle hs.gd⟩
    .rw[haf]at e1;by_cases e:l'=l
     .subst e;simp only[j9,aN,aZ]at e1;subst e1;have e2':x.β l'=some (b',base',tot'):=e2;rw[hβ]at e2';simp only[aZ,ea]at e2';obtain⟨rfl,rfl,rfl⟩:=e2';exact⟨hnI,hblk⟩
     .simp only[j9,e,aL]at e1;obtain⟨a1,a2⟩:=hs.own l' blk b' base' tot' e1 e2;refine⟨a1,a2.mono hle (hother b' (fun eb=>?_))⟩;subst eb;exact e (hs.inj l' l b' base' tot' base tot (by rw[e1];simp) (by rw[g1];simp) e2 hβ)
    .rw[haf]at e1 e2;refine hs.inj l1 l2 b' base' tot' base'' tot'' ?_ ?_ e3 e4
     .by_cases e:l1=l
      .rw[e,g1];simp
      .simpa[j9,e]using e1
     .by_cases e:l2=l
      .rw[e,g1];simp
      .simpa[j9,e]using e2
 .cases hc
end
end
section
variable [dq]
section
variable {x:X} {f:Nat->Option bM} {C:CC} {defs:List (Option Nat)} {J:Src->b8} {ev:Operand->Value} {Y:Ctx} {m:List (Nat×bM)} {L:Nat}
def tH (f:Nat->Option bM)(m:List (Nat×bM))(L:Nat)(b:bM):∀l,iB f [L] (cS m L b) l=j9 f L (some b) l:=by
 grind [iB,c9,j9]
theorem GN {z:Value}{d:D}{k:Nat}(hz:RD C.ν x z d)(hk:d.cells.length=k)(hk0:k≠0)(n i j:Nat)(hi:i<n)(hj:j<k):
  (((Array.range (n*k)).map (z.cells[· %z.cells.size]!)).getD (i*k+j) undef)=z.cells.getD j undef:=by
 obtain⟨c1,_⟩:=hz.cells ae;have hlt:=gO hi hj;have hm:(i*k+j)%k=j:=by rw[Nat.mul_comm,Nat.mul_add_mod];exact Nat.mod_eq_of_lt hj
 simp[Array.getD,hlt,c1,hk,hm,show j<k from hj]
def IS {o:Oper}{i:aG}{t:TypeId}{p:Operand}(hc:C.op defs o=some i)(ho:o.op=.range t p)(hρ:pI C defs J ev x o.op.operands.toList)(hob:i.dF Y J m)(hs:eG C.ν x f)(hL:x.β L=none):
  wA C.ν x (iB f (i.wr J L) (i.cC Y J m L)) L (i.val Y J m L) ((execOp ev o).run C.P x.w):=by
 simp only[CC.op,ho]at hc;split at hc
 .rename_i s hu h1;simp only[aZ]at hc;subst hc;obtain⟨k1,k2⟩:=hob;have hv:=hρ p (by simp[ho,Op.operands,Call.operands]) s h1 k1;cases hd:(J s).d<;>simp only[hd]at k2;rename_i b;rw[hd]at hv;obtain⟨e1,e2⟩:=hv.ie;have e:(aG.rng s).cC Y J m L=cS m L (.iter b 0):=by simp[aG.cC,hd]
  rw[e];refine mV (tot:=0) (blk:=.iter b 0) hs hL (hH.alloc x.w (.stringIter ⟨⟨b⟩⟩ 0)) bh ⟨fk x.w _,e2⟩ (.it L x.w.heap.size 0 0 (by simp[eX])) ?_ (tH f m L _);simp[execOp,ho,e1,Instr.range,run_underlying hu]
 .cases hc
def Ov {o:Oper}{i:aG}{s d:TypeId}{p:Operand}{a:Src}(hc:C.op defs o=some (.s2b a))(ho:o.op=.convert s d p)(hρ:pI C defs J ev x o.op.operands.toList)(hob:(aG.s2b a).dF Y J m)(hs:eG C.ν x f)(hL:x.β L=none):
  wA C.ν x (iB f ((aG.s2b a).wr J L) ((aG.s2b a).cC Y J m L)) L ((aG.s2b a).val Y J m L) ((execOp ev o).run C.P x.w):=by
 simp only[CC.op,ho]at hc;split at hc
 .simp at hc
 .simp at hc
 .rename_i eT a' hu1 hu2 h1;split at hc
  .rename_i hue;simp only[aZ,aG.s2b.injEq]at hc;subst hc;obtain⟨k1,k2⟩:=hob;have hv:=hρ p (by simp[ho,Op.operands,Call.operands]) a' h1 k1;cases hd:(J a').d<;>simp only[hd]at k2;rename_i b;rw[hd]at hv;obtain⟨e1,e2⟩:=hv.ie;have e:(aG.s2b a').cC Y J m L=cS m L (.buf 1 (b.map fun q=>.int .u8 q.toNat)):=by simp[aG.cC,hd]
   rw[e];have hsz:(⟨⟨b⟩⟩:ByteArray).size=b.length:=rfl
   let cap:=grownCap x.w b.length 0 eT
   have hcap:b.length<=cap:=grownCap_ge x.w b.length 0 eT;have hcm:cap<=maxLen:=grownCap_le_maxLen x.w b.length 0 eT e2
   let row:=bytesRow ⟨⟨b⟩⟩ cap
   have hrs:row.size=cap:=by simp[row,bytesRow,hsz];show b.length+(cap-b.length)=cap;omega
   have hrun:=run_bytes_of_string (P:=C.P) x.w s d eT ⟨⟨b⟩⟩ hu1 hu2 hue;have hgrow:hH x.w (x.w.drew.alloc (.cells row eT (row.size,row.size+1))):=(hH.drew x.w).trans (hH.alloc x.w.drew _);have hnew:(x.w.drew.alloc (.cells row eT (row.size,row.size+1))).heap[x.w.heap.size]? =some (.cells row eT (row.size,row.size+1)):=fk x.w.drew _;have hget:∀i,i<b.length->row.getD i undef=.int .u8 (b.getD i 0).toNat:=by
    intro i hi;have e3:(b.map fun q=>Value.int .u8 q.toNat).getD i undef=.int .u8 (b.getD i 0).toNat:=by simp[List.getD,hi]
    rw[<-e3,<-cw];simp[row,bytesRow,List.getD,List.getElem?_append,hi]
   refine mV (v:=.slice (some ⟨x.w.heap.size,0,none⟩) b.length cap) (tot:=cap) (blk:=bM.buf 1 (List.map (fun q:UInt8=>D.int .u8 (q.toNat:Int)) b)) hs hL hgrow (by show _<(x.w.heap.push _).size;simp) ?_ ?_ ?_ (tH f m L _)
   .refine qz (w':=x.w) (L:=L) _ hnew ae (by simpa using hcap) ae (fun o' ho'=>eo) (fun i hi=>?_);simp only[aK]at hi;have hg:(b.map fun q=>D.int .u8 q.toNat).getD i .any=.int .u8 (b.getD i 0).toNat:=by simp[List.getD,hi]
    rw[hg];refine⟨rfl,fun j hj=>?_⟩;have:j=0:=ae;subst this;rw[show i*1+0=i by omega,hget i hi];exact⟨rfl,.int _ _⟩
   .simp only[aG.val,hd];exact .own L 1 0 b.length x.w.heap.size 0 cap cap ⟨x.w.heap.size,0,none⟩ (by simp[eX]) (fun _=>bh) hcap hcm ae
   .simp only[execOp,ho,e1,Sem.run_bind,hrun,Result.andThen_ok,Sem.run_pure];rfl
  .cases hc
 .split at hc
  .simp at hc
  .cases hc
 .cases hc
def Oo {o:Oper}{s d:TypeId}{p:Operand}{a:Src}(hc:C.op defs o=some (.b2s a))(ho:o.op=.convert s d p)(hρ:pI C defs J ev x o.op.operands.toList)(hob:(aG.b2s a).dF Y J m)(hs:eG C.ν x f)(hag:ye f m ((aG.b2s a).kV J)):
  wA C.ν x (iB f ((aG.b2s a).wr J L) ((aG.b2s a).cC Y J m L)) L ((aG.b2s a).val Y J m L) ((execOp ev o).run C.P x.w):=by
 have haf:iB f ((aG.b2s a).wr J L) ((aG.b2s a).cC Y J m L)=f:=by funext l;simp[iB,aG.wr]
 rw[haf];simp only[CC.op,ho]at hc;split at hc
 .simp at hc
 .simp at hc
 .split at hc
  .simp at hc
  .cases hc
 .rename_i eT a' hu1 hu2 h1;split at hc
  .rename_i hue;simp only[aZ,aG.b2s.injEq]at hc;subst hc;obtain⟨k1,k2,k3,k4⟩:=hob;have hv:=hρ p (by simp[ho,Op.operands,Call.operands]) a' h1 k1;have hd1:C.P.underlying d=some .string:=hu2;have hconv:∀b l c,ev p=.slice b l c->(execOp ev o).run C.P x.w=((Conv.bytesToString (.slice b l c)).run C.P x.w).andThen fun v w'=>.ok (.value v) w':=by
    intro b l c he;simp only[execOp,ho,he,Sem.run_bind,run_convert_bytes_string x.w s d eT b l c hu1 hue hu2,Sem.run_pure]
   have key:∀(aa:Addr) (len cap:Nat) (es:List D),es.length=len->(∀e∈es,e.Gb)->len<=maxLen->(∀i,i<len->∃v,x.w.cell? ⟨aa.block,aa.off+i,none⟩=some v/\RD C.ν x v (es.getD i .any))->(0<len->aa.spot=none)->
     ev p=.slice (some aa) len cap->wA C.ν x f L (.str (es.map D.u8)) ((execOp ev o).run C.P x.w):=by
    intro aa len cap es hlen hu8 hm hcell hspot he;have hv':∀i,i<len->∃n,es.getD i .any=.int .u8 n/\0<=n/\n<256:=by
     intro i hi;have hmem:=hu8 (es.getD i .any) (by rw[m4 _ _ _ ae];exact List.getElem_mem _);cases hg:es.getD i .any<;>simp only[hg,D.Gb]at hmem;obtain⟨rfl,h1,h2⟩:=hmem;exact⟨_,rfl,h1,h2⟩
    let ns:List Int:=es.map fun e=>match e with| .int _ n=>n|_=>0
    have hload:(loadCells aa len).run C.P x.w=.ok (ns.map (Value.int .u8)).toArray x.w:=by
     have:=run_loadCells (P:=C.P) x.w aa len (fun j=>.int .u8 (ns.getD j 0)) (fun j hj=>by
      obtain⟨v,c1,c2⟩:=hcell j hj;obtain⟨n,g1,_,_⟩:=hv' j hj;have hn:ns.getD j 0=n:=by
       rw[m4 _ _ _ ae]at g1;simp[ns,List.getD,show j<es.length by omega,g1]
      rw[hn];rw[g1]at c2;rw[<-c2.dD,<-c1];have hsp:=hspot ae;congr 1;obtain⟨ab,ao,Z5⟩:=aa;simp only at hsp;subst hsp;rw[Addr.wC])
     rw[this];congr 2;apply List.ext_getElem
     .simp[ns,hlen]
     .intro i h1 h2;simp at h1 h2;simp[List.getD,ns,show i<es.length by omega]
    refine n5 hs (v:=.string ⟨⟨es.map D.u8⟩⟩) ?_ (.str _ eo);rw[hconv _ _ _ he,run_bytesToString x.w aa len cap ns hload];simp only[Result.andThen_ok];congr 3;have hfold:∀(l:List Int) (s0:ByteArray),l.foldl (fun r n=>r.push (UInt8.ofNat n.toNat)) s0=⟨⟨s0.data.toList++l.map fun n=>UInt8.ofNat n.toNat⟩⟩:=by
     intro l;induction l with
     |nil=>intro s0;simp
     |cons n r ih=>
      intro s0;rw[List.foldl_cons,ih];congr 2;simp[ByteArray.push]
    rw[hfold];have e0:(ByteArray.empty.data.toList:List UInt8)=[]:=rfl;rw[e0,wx];congr 2;simp only[ns,List.map_map];apply List.map_congr_left;intro e he';have:=hu8 e he';cases e<;>simp only[D.Gb]at this;rfl
   cases hd:(J a').d<;>simp only[hd,yq]at k2 k3 k4
   ·
    rw[hd]at hv;simp only[aG.val,hd,nw,List.map_nil];generalize hep:ev p=vp at hv;cases hv;refine n5 hs (v:=.string ⟨⟨[]⟩⟩) ?_ (.str _ bh);rw[hconv _ _ _ hep];rfl
   .rename_i k es;rw[hd]at hv;simp only[aG.val,hd,nw];simp only[nw]at k4;subst k3;generalize hep:ev p=vp at hv;cases hv with
    |sl aa b off len cap _ _ c hlen ha hcap hm hk hn hcc hone hh=>
     by_cases he0:es=[]
     .subst he0;simp at hlen;subst hlen;refine n5 hs (v:=.string ⟨⟨[]⟩⟩) ?_ (.str _ bh);rw[hconv _ _ _ hep];cases aa with
      |none=>rfl
      |some aa=>
       rw[run_bytesToString x.w aa 0 cap [] (by simp[loadCells,loadCellsFrom])];rfl
     .rcases ha with h|⟨rfl,hI⟩
      .exact absurd h he0
      .refine key _ len cap es hlen.symm k4 ae (fun i hi=>⟨c i 0,by have:=hcc i 0 hi ae;simpa using this, ?_⟩) (fun _=>rfl) hep;have:=hh i 0 hi ae;have hk1:=hk i hi;cases hg:es.getD i .any<;>rw[hg]at this hk1<;>simp only[D.cells,bK,bA]at hk1 this<;>first|omega|exact this|skip
       rename_i cs;have hmem:=k4 (es.getD i .any) (by rw[m4 _ _ _ ae];exact List.getElem_mem _);rw[hg]at hmem;simp[D.Gb]at hmem
   .rename_i l k i n;rw[hd]at hv;simp only[aG.val,hd,nw];simp only[nw]at k4;obtain⟨k5,k6⟩:=k3;subst k5;generalize hep:ev p=vp at hv;cases hv with
    |own _ _ _ _ b base tot cap aa hβ ha hcap hm ht=>
     obtain⟨g1,g2,g3⟩:=pJ hs (hag l (by simp[hd,cZ])) k6;obtain⟨hnI,hk0,ht',c,T,fr,q1,q2,q3,q4⟩:=hs.own l _ b base tot g1 hβ;have hlen:(((aW m l).drop i).take n).length=n:=fL _ _ _ g2;refine key aa n cap _ hlen k4 ae (fun j hj=>?_) (fun h=>by rw[ha ae]) hep;have ha':=ha ae;subst ha';have hij:i+j<(aW m l).length:=ae;refine⟨c.getD (base+(i+j)*1+0) undef, ?_, ?_⟩
     .rw[show base+i*1+j=base+(i+j)*1+0 by omega];exact cell_of_heap q1 ae
     .rw[dT _ _ _ _ _ hj];have:=((q4 (i+j) hij).2 0 ae).2;have hk1:=(q4 (i+j) hij).1;cases hg:(aW m l).getD (i+j) .any<;>rw[hg]at this hk1<;>simp only[D.cells,bK,bA]at hk1 this<;>first|omega|exact this|skip
      rename_i cs;have hmem:=k4 ((((aW m l).drop i).take n).getD j .any) (by rw[m4 _ _ _ ae];exact List.getElem_mem _);rw[dT _ _ _ _ _ hj,hg]at hmem;simp[D.Gb]at hmem
    |own0 _ _ _ a0=>
     simp only[List.take_zero,List.map_nil];refine n5 hs (v:=.string ⟨⟨[]⟩⟩) ?_ (.str _ bh);rw[hconv _ _ _ hep];cases a0<;>rfl
  .cases hc
 .cases hc
def Lu {o:Oper}{i:aG}{p:Operand}(hc:C.op defs o=some i)(ho:o.op=.next p true)(hρ:pI C defs J ev x o.op.operands.toList)(hob:i.dF Y J m)(hs:eG C.ν x f)(hag:ye f m (i.kV J)):
  wA C.ν x (iB f (i.wr J L) (i.cC Y J m L)) L (i.val Y J m L) ((execOp ev o).run C.P x.w):=by
 simp only[CC.op,ho,cW]at hc;obtain⟨s,h1,rfl⟩:=hc;obtain⟨k1,k2⟩:=hob;have hv:=hρ p (by simp[ho,Op.operands,Call.operands]) s h1 k1;cases hd:(J s).d<;>simp only[hd]at k2;rename_i l;rw[hd]at hv;cases hl:look m l with
 |none=>simp[hl]at k2
 |some blk=>
  cases blk with
  |buf k es=>simp[hl]at k2
  |row s=>simp[hl]at k2
  |bld o n u=>simp[hl]at k2
  |iter b pos=>
   have hfl:f l=some (.iter b pos):=by rw[<-hl];exact hag l (by simp[hd,cZ])
   generalize hep:ev p=vp at hv;cases hv with
   |it _ bb base tot hβ=>
    obtain⟨hnI,hb1,nJ⟩:=hs.own l _ bb base tot hfl hβ;have hlt:=hs.dW l bb base tot hβ;by_cases hp:pos<b.length
    .have hsz:(⟨⟨b⟩⟩:ByteArray).size=b.length:=rfl
     let w':World:={x.w with heap:=x.w.heap.setIfInBounds bb (.stringIter ⟨⟨b⟩⟩ (pos+(rH b pos).2))}
     have hother:∀b',b'≠bb->w'.heap[b']? =x.w.heap[b']? :=fun b' hb'=>by simp[w',Array.getElem?_setIfInBounds,show ¬bb=b' by omega]
     have hhere:w'.heap[bb]? =some (.stringIter ⟨⟨b⟩⟩ (pos+(rH b pos).2)):=by simp[w',hlt]
     have hsize:w'.heap.size=x.w.heap.size:=by simp[w']
     have hstep:Step x ⟨w',x.I,x.β⟩:=
      ⟨rfl,rfl,rfl,by show _<=w'.heap.size;omega,fun _ h=>h,fun b' hb'=>hother b' (fun e=>hnI (e▸hb')),fun _ _ h=>h,fun b' _ hn=>hother b' (fun e=>hn l _ hβ e.symm),fun _ h=>.inl h,fun _ _ h=>.inl h⟩
     have haf:∀l',iB f ((aG.bH s).wr J L) ((aG.bH s).cC Y J m L) l'=j9 f l (some (.iter b (pos+(rH b pos).2))) l':=by
      intro l';simp only[iB,aG.wr,hd,cZ,aG.cC,hl,hp,decide_true,cond_true,bo,c9,j9];by_cases e:l'=l
      .rw[aw e,aw e,aw e]
      .rw[ai e,ai e]
     refine⟨.tuple #[.bool true,.int .i64 pos,.int .i32 (rH b pos).1],⟨w',x.I,x.β⟩,.inl ?_,hstep, ?_, ?_,fun _ _=>rfl⟩
     .have hobj:(getObj bb).run C.P x.w=.ok (.stringIter ⟨⟨b⟩⟩ pos) x.w:=by simp[getObj,Sem.run,hb1]
      have hset:∀ob:Obj,(setObj bb ob).run C.P x.w=.ok () {x.w with heap:=x.w.heap.setIfInBounds bb ob}:=by intro ob;simp[setObj,Sem.run,hb1]
      simp[execOp,ho,hep,Instr.next,hobj,hsz,hp,hset,goInt,rH,w']
     .simp only[aG.val,hd,hl,hp,decide_true,cond_true];refine .tup _ _ bh (fun i hi=>?_);simp at hi
      match i,hi with
      |0,_=>simpa using RD.bool true
      |1,_=>simpa using RD.int .i64 pos
      |2,_=>simpa using RD.int .i32 (rH b pos).1
     .refine⟨fun l' blk b' base' tot' e1 e2=>?_,fun l1 l2 b' base' tot' base'' tot'' e1 e2 e3 e4=>?_,fun b' hb'=>by show b'<w'.heap.size;rw[hsize];exact hs.imm b' hb',fun l' b' base' tot' e=>by show b'<w'.heap.size;rw[hsize];exact hs.dW l' b' base' tot' e,qM hstep.le hs.gd⟩
      .rw[haf]at e1;by_cases e:l'=l
       .subst e;simp only[j9,aN,aZ]at e1;subst e1;have e2':x.β l'=some (b',base',tot'):=e2;rw[hβ]at e2';simp only[aZ,ea]at e2';obtain⟨rfl,rfl,rfl⟩:=e2';exact⟨hnI,hhere,nJ⟩
       .simp only[j9,e,aL]at e1;obtain⟨a1,a2⟩:=hs.own l' blk b' base' tot' e1 e2;refine⟨a1,a2.mono hstep.le (hother b' (fun eb=>?_))⟩;subst eb;exact e (hs.inj l' l b' base' tot' base tot (by rw[e1];simp) (by rw[hfl];simp) e2 hβ)
      .rw[haf]at e1 e2;refine hs.inj l1 l2 b' base' tot' base'' tot'' ?_ ?_ e3 e4
       .by_cases e:l1=l
        .rw[e,hfl];simp
        .simpa[j9,e]using e1
       .by_cases e:l2=l
        .rw[e,hfl];simp
        .simpa[j9,e]using e2
    .have haf:iB f ((aG.bH s).wr J L) ((aG.bH s).cC Y J m L)=f:=by
      funext l';simp only[iB,aG.wr,hd,cZ,aG.cC,hl,hp,decide_false,cond_false,bo];by_cases e:l'=l
      .rw[aw e,e,hl,hfl]
      .rw[ai e]
     rw[haf];refine n5 hs (v:=.tuple #[.bool false]) ?_ ?_
     .have hsz:(⟨⟨b⟩⟩:ByteArray).size=b.length:=rfl;have hobj:(getObj bb).run C.P x.w=.ok (.stringIter ⟨⟨b⟩⟩ pos) x.w:=by simp[getObj,Sem.run,hb1]
      simp[execOp,ho,hep,Instr.next,hobj,hsz,hp]
     .simp only[aG.val,hd,hl,hp,decide_false,cond_false];refine .tup _ _ bh (fun i hi=>?_);simp at hi;subst hi;simpa using RD.bool false
def sM {k n:Nat}{os':List Operand}(hρ:pI C defs J ev x os')(hk0:k≠0):∀(ps:List (Nat×Operand)) (ss:List (Nat×Src)),(∀p∈ps,p.2∈os')->C.r9 defs ps=some ss->n7 J k n ss->
  ∀(cs:Array Value) (es:List D),cs.size=n*k->es.length=n->
   (∀i,i<n->(es.getD i .any).cells.length=k/\∀j,j<k->(cs.getD (i*k+j) undef).oneCell'=true/\RD C.ν x (cs.getD (i*k+j) undef) ((es.getD i .any).cells.getD j .any))->
  ∃cs',Instr.fill (fun i=>some (i*k,k)) cs (ps.map fun(i,o)=>(i,ev o))=some cs'/\cs'.size=n*k/\(jZ J es ss).length=n/\
   ∀i,i<n->((jZ J es ss).getD i .any).cells.length=k/\∀j,j<k->(cs'.getD (i*k+j) undef).oneCell'=true/\RD C.ν x (cs'.getD (i*k+j) undef) (((jZ J es ss).getD i .any).cells.getD j .any)
 |[],ss,_,h,_,cs,es,h1,h2,h3=>by simp[CC.r9]at h;subst h;exact⟨cs,by simp[Instr.fill],h1,by simpa[jZ]using h2,by simpa[jZ]using h3⟩
 |(i,o)::r,ss,hm,h,hk,cs,es,h1,h2,h3=>by
  simp only[CC.r9]at h;split at h
  .rename_i s l g1 g2;simp only[aZ]at h;subst h;simp only[n7]at hk;obtain⟨k1,k2,k3,k4⟩:=hk;have hv:=hρ o (hm _ (.head _)) s g1 k2;obtain⟨c1,c2⟩:=hv.cells ae;have hsz:(ev o).cells.size=k:=ae;have hb:i*k+k<=n*k:=by rw[<-Nat.succ_mul];exact iN _ k1
   obtain⟨f1,f2⟩:=uK (i*k) (ev o).cells.toList 0 cs eo
   let cs1:Array Value:=((ev o).cells.toList.zipIdx 0).foldl (fun cs (c,j)=>cs.setIfInBounds (i*k+j) c) cs
   have hcs1:(ev o).cells.zipIdx.foldl (fun cs (c,j)=>cs.setIfInBounds (i*k+j) c) cs=cs1:=by
    rw[<-Array.foldl_toList];simp[cs1]
   have hget:∀q,cs1.getD q undef=if i*k<=q/\q<i*k+k then(ev o).cells.getD (q-i*k) undef else cs.getD q undef:=by
    intro q;have:=f2 q;rw[<-cw,<-cw cs,<-cw (ev o).cells];simp only[List.getD,Array.getElem?_toList];rw[show cs1[q]? =_ from this];simp only[Array.length_toList,hsz,Nat.add_zero];split
    .simp
    .rfl
   have hel:∀i',i'<n->((es.set i (J s).d).getD i' .any)=if i'=i then(J s).d else es.getD i' .any:=by
    intro i' hi';by_cases e:i'=i
    .subst e;simp[List.getD,List.getElem?_set,show i'<es.length by omega]
    .simp[List.getD,List.getElem?_set,show ¬i=i' by omega,e]
   obtain⟨cs',r1,r2,r3,r4⟩:=sM hρ hk0 r l (fun p hp=>hm p (.tail _ hp)) g2 k4 cs1 (es.set i (J s).d) (f1.trans h1) (by simpa using h2) (fun i' hi'=>by
    rw[hel i' hi'];by_cases e:i'=i
    .subst e;rw[aw rfl];refine⟨k3,fun j hj=>?_⟩;rw[hget,aw ae,show i'*k+j-i'*k=j by omega];exact c2 j ae
    .rw[ai e];refine⟨(h3 i' hi').1,fun j hj=>?_⟩;have hne:¬(i*k<=i'*k+j/\i'*k+j<i*k+k):=by
      rcases cQ i' i with hlt|hge
      .have:(i'+1)*k<=i*k:=iN _ hlt;rw[Nat.succ_mul]at this;omega
      .have:(i+1)*k<=i'*k:=iN _ ae;rw[Nat.succ_mul]at this;omega
     rw[hget,ai hne];exact(h3 i' hi').2 j hj)
   refine⟨cs', ?_,r2,by simpa[jZ]using r3,by simpa[jZ]using r4⟩;simp only[List.map_cons,Instr.fill];rw[ai (by simp[hsz];omega),hcs1];exact r1
  .cases h
def xJ {z:Value}{d:D}{k n:Nat}(hz:RD C.ν x z d)(hk:d.cells.length=k)(hk0:k≠0):
  ∀i,i<n->((List.replicate n d).getD i .any).cells.length=k/\∀j,j<k->(((Array.range (n*k)).map (z.cells[· %z.cells.size]!)).getD (i*k+j) undef).oneCell'=true/\RD C.ν x (((Array.range (n*k)).map (z.cells[· %z.cells.size]!)).getD (i*k+j) undef) (((List.replicate n d).getD i .any).cells.getD j .any):=by
 intro i hi;obtain⟨_,c2⟩:=hz.cells ae
 grind [GN]
def Oq {o:Oper}{i:aG}{t:TypeId}{n:Nat}{ps:Array (Nat×Operand)}(hc:C.op defs o=some i)(ho:o.op=.buildSlice t n ps)(hρ:pI C defs J ev x o.op.operands.toList)(hob:i.dF Y J m)(hs:eG C.ν x f)(hL:x.β L=none):
  wA C.ν x (iB f (i.wr J L) (i.cC Y J m L)) L (i.val Y J m L) ((execOp ev o).run C.P x.w):=by
 simp only[CC.op,ho]at hc;split at hc
 .rename_i e hu;split at hc
  .rename_i z l hz h1;split at hc
   .cases hc
   rename_i hce;simp only[aZ]at hc;subst hc;obtain⟨k1,k2⟩:=hob;obtain⟨ti,v,hi,hzv,hr⟩:=kW (x:=x) hz;have hce0:C.P.cellsOf e≠0:=fun h=>hce (.inl h)
   have hsz:ti.size=C.P.cellsOf e:=by simp[Program.cellsOf,hi]
   have hsmall:¬n*ti.size>2^24:=fun h=>hce (.inr (by rw[hsz]at h;simpa using h))
   obtain⟨cs',r1,r2,r3,r4⟩:=sM hρ hce0 ps.toList l (fun p hp=>by simp only[ho,Op.operands,ec];exact⟨p,hp,rfl⟩) h1 k2 ((Array.range (n*C.P.cellsOf e)).map (v.cells[· %v.cells.size]!)) (List.replicate n z) bh bh (xJ hr k1 hce0);have hgrow:=hH.alloc x.w (.cells cs' e);have hle:=yy (tot:=n) hs hgrow hL;have he:(aG.bsl (C.P.cellsOf e) z n l).cC Y J m L=cS m L (bM.buf (C.P.cellsOf e) (jZ J (List.replicate n z) l)):=rfl;rw[he];have hrun:(Instr.buildSlice t n (ps.map fun(i,x)=>(i,ev x))).run C.P x.w=.ok (.slice (some ⟨x.w.heap.size,0,none⟩) n n) (x.w.alloc (.cells cs' e)):=by
    by_cases hn:n=0
    .subst hn;have hcs0:cs'=#[]:=Array.eq_empty_of_size_eq_zero (by simpa using r2);have hps:ps.toList=[]:=by
      cases hp:ps.toList with
      |nil=>rfl
      |cons q r=>
       rw[hp]at h1;obtain⟨i0,o0⟩:=q;simp only[CC.r9]at h1;split at h1
       .rename_i s' l' _ _;simp only[aZ]at h1;subst h1;simp[n7]at k2
       .cases h1
     have hps':ps=#[]:=by apply Array.ext';simpa using hps
     subst hps';simp[Instr.buildSlice,run_underlying hu,sizeOf,typeInfo,hi,Instr.fill,newRow,hcs0,show Array.range 0=#[]from rfl]
    .refine run_buildSlice x.w t e n _ cs' ti v hu hi hzv hsmall ?_ ?_
     .rw[hsz];intro h0;rcases Nat.mul_eq_zero.1 h0 with h|h
      .exact hn h
      .exact hce0 h
     .rw[hsz,Array.toList_map];exact r1
   refine mV (v:=.slice (some ⟨x.w.heap.size,0,none⟩) n n) (tot:=n) (blk:=bM.buf (C.P.cellsOf e) (jZ J (List.replicate n z) l)) hs hL hgrow bh ?_ ?_ ?_ (tH f m L _)
   .exact qz (w':=x.w) (L:=L) _ (fk x.w _) ae ae ae (fun o' _=>bh) (fun i hi=>⟨(r4 i ae).1,fun j hj=>⟨((r4 i ae).2 j hj).1,((r4 i ae).2 j hj).2.mono hle⟩⟩)
   .exact .own L (C.P.cellsOf e) 0 n x.w.heap.size 0 n n ⟨x.w.heap.size,0,none⟩ (by simp[eX]) (fun _=>bh) (aE _) (by have:n*1<=n*C.P.cellsOf e:=Nat.mul_le_mul_left _ ae;have h3:¬n*C.P.cellsOf e>16777216:=fun h=>hce (.inr h);simp only[maxLen];omega) ae
   .simp only[execOp,ho,Sem.run_bind,hrun,Result.andThen_ok,Sem.run_pure]
  .cases hc
 .cases hc
def Ot {o:Oper}{i:aG}{t:TypeId}{p q:Operand}(hc:C.op defs o=some i)(ho:o.op=.makeSlice t p q)(hρ:pI C defs J ev x o.op.operands.toList)(hob:i.dF Y J m)(hs:eG C.ν x f)(hL:x.β L=none):
  wA C.ν x (iB f (i.wr J L) (i.cC Y J m L)) L (i.val Y J m L) ((execOp ev o).run C.P x.w):=by
 simp only[CC.op,ho]at hc;split at hc
 .rename_i e hu;split at hc
  .rename_i z ln cp hz h1 h2;split at hc
   .cases hc
   rename_i hce;simp only[aZ]at hc;subst hc;obtain⟨k1,k2,k3,k4⟩:=hob;have hv:=hρ p (by simp[ho,Op.operands,Call.operands]) ln h1 k1;have hw:=hρ q (by simp[ho,Op.operands,Call.operands]) cp h2 k2;cases hd:(J ln).d<;>cases hd2:(J cp).d<;>simp only[hd,hd2]at k4;rename_i kk n kk' c;rw[hd]at hv;rw[hd2]at hw;obtain⟨ti,v,hi,hzv,hr⟩:=kW (x:=x) hz;have hce0:C.P.cellsOf e≠0:=fun h=>hce (.inl h)
   have hsz:ti.size=C.P.cellsOf e:=by simp[Program.cellsOf,hi]
   have hby:ti.bytes<=65536:=by
    have:¬C.P.bytesOf e>65536:=fun h=>hce (.inr h)
    simp[Program.bytesOf,hi]at this;omega
   have hbytes:(ti.bytes:Int)*c<=281474976710656:=by
    have h1:(ti.bytes:Int)*c<=65536*c:=Int.mul_le_mul_of_nonneg_right ae ae;have h2:(65536:Int)*c<=65536*1073741824:=Int.mul_le_mul_of_nonneg_left ae ae;omega
   have hrun:=run_make (P:=C.P) x.w t e ti v hu hi hzv kk kk' n c k4.1 k4.2.1 hbytes ae;rw[hsz]at hrun;have hgrow:=hH.alloc x.w (.cells (madeCells v.cells (c.toNat*C.P.cellsOf e)) e);have hle:=yy (tot:=c.toNat) hs hgrow hL;have hrep:=xJ (n:=c.toNat) hr k3 hce0;have hms:(madeCells v.cells (c.toNat*C.P.cellsOf e)).size=c.toNat*C.P.cellsOf e:=size_madeCells _ _;have he:(aG.mks (C.P.cellsOf e) z ln cp).cC Y J m L=cS m L (.buf (C.P.cellsOf e) (List.replicate n.toNat z)):=by simp[aG.cC,hd,D.nat]
   rw[he];refine mV (v:=.slice (some ⟨x.w.heap.size,0,none⟩) n.toNat c.toNat) (tot:=c.toNat) (blk:=.buf (C.P.cellsOf e) (List.replicate n.toNat z)) hs hL hgrow bh ?_ ?_ ?_ (tH f m L _)
   .refine qz (w':=x.w) (L:=L) _ (fk x.w _) ae eo ae (fun o' _=>bh) (fun i hi=>?_);simp only[List.length_replicate]at hi;have:=hrep i ae;have e1:(List.replicate n.toNat z).getD i .any=(List.replicate c.toNat z).getD i .any:=by simp[List.getD,hi,show i<c.toNat by omega]
    rw[e1];refine⟨this.1,fun j hj=>?_⟩;have h2:=this.2 j hj;have e2:(Array.range (c.toNat*C.P.cellsOf e)).map (v.cells[· %v.cells.size]!)=madeCells v.cells (c.toNat*C.P.cellsOf e):=rfl;rw[e2]at h2;exact⟨h2.1,h2.2.mono hle⟩
   .simp only[aG.val,hd,D.nat];exact .own L _ 0 n.toNat x.w.heap.size 0 c.toNat c.toNat ⟨x.w.heap.size,0,none⟩ (by simp[eX]) (fun _=>bh) ae (by simp only[maxLen];omega) ae
   .simp only[execOp,ho,hv.dD,hw.dD,Sem.run_bind,hrun,Result.andThen_ok,Sem.run_pure]
  .cases hc
 .cases hc
end
end
section
variable [dq]
section
variable {x:X} {f:Nat->Option bM} {C:CC} {defs:List (Option Nat)} {J:Src->b8} {ev:Operand->Value} {Y:Ctx} {m:List (Nat×bM)} {L:Nat}
def flat_get (n k:Nat)(g:Nat->Nat->Value)(i j:Nat)(hi:i<n)(hj:j<k):((List.range (n*k)).map fun q=>g (q/k) (q%k)).getD (i*k+j) undef=g i j:=by
 have hlt:=gO hi hj;have h1:(i*k+j) /k=i:=by rw[Nat.mul_comm,Nat.mul_add_div ae,Nat.div_eq_of_lt hj];omega
 have h2:(i*k+j)%k=j:=by rw[Nat.mul_comm,Nat.mul_add_mod];exact Nat.mod_eq_of_lt hj
 simp[List.getD,hlt,h1,h2]
def O1 {u:TypeId}{k:Nat}(hk0:k≠0)(hkind:(∃e',C.P.underlying u=some (.slice e'))\/C.P.underlying u=some .string){v:Value}{d:D}(hv:RD C.ν x v d)(hd:yq m k d)(hs:eG C.ν x f)(hag:∀l,l∈cZ d->f l=look m l):
  ∃news,Go.Src C.P k u v (nw m d).length news x.w/\∀i,i<(nw m d).length->((nw m d).getD i .any).cells.length=k/\∀j,j<k->
   RD C.ν x (news.getD (i*k+j) undef) (((nw m d).getD i .any).cells.getD j .any):=by
 have nothing:∀(a:Option Addr) (c:Nat),Go.Src C.P k u (.slice a 0 c) 0 [] x.w:=by
  intro a c;have hf:∀w':World,(Builtin.firstCells k 0 (.slice a 0 c)).run C.P w'=.ok #[] w':=by
   intro w';cases a<;>simp[Builtin.firstCells,loadCells,loadCellsFrom]
  exact⟨hkind,fun _=>rfl,hf _,hf _,bh,fun _ h=>by cases h⟩
 have some_:∀(b off n cap:Nat) (g:Nat->Nat->Value),(∀i j,i<n->j<k->x.w.cell? ⟨b,off+i*k+j,none⟩=some (g i j)/\(g i j).oneCell'=true)->
   Go.Src C.P k u (.slice (some ⟨b,off,none⟩) n cap) n ((List.range (n*k)).map fun q=>g (q/k) (q%k)) x.w:=by
  intro b off n cap g hg;have hqd:∀q,q<n*k->q/k<n/\q%k<k/\q/k*k+q%k=q:=fun q hq=>
   ⟨Nat.div_lt_of_lt_mul (by rw[Nat.mul_comm];exact hq),Nat.mod_lt _ ae,by rw[Nat.mul_comm];exact Nat.div_add_mod q k⟩
  have hcell:∀j u',((List.range (n*k)).map fun q=>g (q/k) (q%k))[j]? =some u'->x.w.cell? ((⟨b,off,none⟩:Addr).add j)=some u':=by
   intro j u' hj;obtain⟨hj2,rfl⟩:=List.getElem?_eq_some_iff.1 hj;simp at hj2;obtain⟨h1,h2,h3⟩:=hqd j hj2;rw[Addr.wC];simp only[List.getElem_map,List.getElem_range];rw[<-(hg _ _ h1 h2).1];congr 2;omega
  refine⟨hkind,fun _=>rfl,run_firstCells_some x.w k n _ n cap _ bh hcell,run_firstCells_some x.w.drew k n _ n cap _ bh (by simpa using hcell),bh,fun u' hu'=>?_⟩;obtain⟨q,hq,rfl⟩:=ec.1 hu';obtain⟨h1,h2,_⟩:=hqd q (by simpa using hq);exact(hg _ _ h1 h2).2
 cases d<;>simp only[yq]at hd
 ·
  rename_i s;obtain⟨rfl,h2⟩:=hv.ie;subst hd;have hsz:(⟨⟨s⟩⟩:ByteArray).size=s.length:=rfl;refine⟨byteCells ⟨⟨s⟩⟩, ?_,fun i hi=>?_⟩
  .have:(nw m (.str s)).length=(⟨⟨s⟩⟩:ByteArray).size:=by simp[nw,hsz]
   rw[this];exact⟨hkind,fun _=>rfl,firstCells_string _ _,firstCells_string _ _,by rw[byteCells_length,Nat.mul_one],fun u' hu'=>by
    obtain⟨_,_,rfl⟩:=ec.1 hu';rfl⟩
  .have hi':i<s.length:=by simpa[nw]using hi
   have e:(nw m (.str s)).getD i .any=.int .u8 (s.getD i 0).toNat:=by simp[nw,List.getD,hi']
   rw[e];refine⟨rfl,fun j hj=>?_⟩;obtain rfl:j=0:=ae;have e2:(byteCells ⟨⟨s⟩⟩).getD (i*1+0) undef=.int .u8 (s.getD i 0).toNat:=by simp[byteCells,List.getD,hi']
   rw[e2];exact .int _ _
 .cases hv;exact⟨[],nothing none 0,fun i hi=>by simp[nw]at hi⟩
 .rename_i k' es;subst hd;cases hv with
  |sl a b off len cap _ _ c hlen ha hcap hm hk hn hcc hone hh=>
   subst hlen;rcases ha with rfl|⟨rfl,hI⟩
   .exact⟨[],by simpa[nw]using nothing a cap,fun i hi=>by simp[nw]at hi⟩
   .refine⟨_,some_ b off es.length cap c (fun i j hi hj=>⟨hcc i j hi hj,hone i j hi hj⟩),fun i hi=>⟨hk i hi,fun j hj=>?_⟩⟩;rw[flat_get es.length k' c i j hi hj];exact hh i j hi hj
 .rename_i l k' i0 n;obtain⟨rfl,hb⟩:=hd;cases hv with
  |own0 _ _ _ a=>exact⟨[],by simpa[nw]using nothing a 0,fun i hi=>by simp[nw]at hi⟩
  |own _ _ _ _ b base tot cap aa hβ ha hcap hm ht=>
   obtain⟨g1,g2,g3⟩:=pJ hs (hag l (by simp[cZ])) hb;obtain⟨hnI,hk0',ht',c,T,fr,q1,q2,q3,q4⟩:=hs.own l _ b base tot g1 hβ;have hlen:(nw m (.own l k' i0 n)).length=n:=by simp only[nw];exact fL _ _ _ g2
   rw[hlen];by_cases hn0:n=0
   .subst hn0;exact⟨[],nothing _ _,fun i hi=>ae⟩
   .have ha':=ha ae;subst ha';have hg:∀i,i<n->(nw m (.own l k' i0 n)).getD i .any=(aW m l).getD (i0+i) .any:=fun i hi=>by simp only[nw];exact dT _ _ _ _ _ hi
    refine⟨_,some_ b (base+i0*k') n cap (fun i j=>c.getD (base+(i0+i)*k'+j) undef) (fun i j hi hj=>?_),fun i hi=>?_⟩
    .have h1:=gO (tot:=tot) (show i0+i<tot by omega) hj;refine⟨?_,((q4 (i0+i) ae).2 j hj).1⟩;rw[<-cell_of_heap q1 (by omega:base+(i0+i)*k'+j<c.size)];congr 2;rw[Nat.add_mul];omega
    .rw[hg i hi];refine⟨(q4 (i0+i) ae).1,fun j hj=>?_⟩;rw[flat_get n k' (fun i j=>c.getD (base+(i0+i)*k'+j) undef) i j hi hj];exact((q4 (i0+i) ae).2 j hj).2
theorem df {α:Type}(a b:List α)(i:Nat)(d:α):(a++b).getD i d=if i<a.length then a.getD i d else b.getD (i-a.length) d:=by
 grind
def F9 {k n mm cap:Nat}{T:TypeId}{olds news:List Value}{zs:Array Value}{es1 es2:List D}(x':X)(b:Nat)(hk0:k≠0)
  (hlo:olds.length=n*k) (hln:news.length=mm*k) (h1:es1.length=n) (h2:es2.length=mm) (hcap:n+mm<=cap) (hzs:zs.size=(cap-(n+mm))*k)
  (hx:x'.w.heap[b]? =some (.cells ((olds++news).toArray++zs) T (0,0)))
  (ho:∀i,i<n->(es1.getD i .any).cells.length=k/\∀j,j<k->(olds.getD (i*k+j) undef).oneCell'=true/\RD C.ν x' (olds.getD (i*k+j) undef) ((es1.getD i .any).cells.getD j .any))
  (hn:∀i,i<mm->(es2.getD i .any).cells.length=k/\∀j,j<k->(news.getD (i*k+j) undef).oneCell'=true/\RD C.ν x' (news.getD (i*k+j) undef) ((es2.getD i .any).cells.getD j .any)):
  lO C.ν x' b 0 cap (.buf k (es1++es2)):=by
 have hsz:((olds++news).toArray++zs).size=cap*k:=by
  simp only[Array.size_append,List.size_toArray,cK,hlo,hln,hzs,<-Nat.add_mul];congr 1;omega
 refine qz (w':=x'.w) (L:=0) x' hx ae eo ae (fun o _=>bh) (fun i hi=>?_);simp only[cK,h1,h2]at hi;have hge:∀j,j<k->(((olds++news).toArray++zs).getD (i*k+j) undef)=(olds++news).getD (i*k+j) undef:=by
  intro j hj;have:=gO hi hj;rw[Nat.add_mul]at this;rw[<-cw];simp only[Array.toList_append];rw[df,aw eo]
 rw[df];by_cases h:i<n
 .grind [df,gO]
 .rw[ai ae,h1];refine⟨(hn (i-n) ae).1,fun j hj=>?_⟩;have hnk:n*k<=i*k:=iN _ ae;rw[hge j hj,df,ai ae,show i*k+j-olds.length=(i-n)*k+j by rw[hlo,Nat.sub_mul];omega];exact(hn (i-n) ae).2 j hj
def IM {news:List Value}(h:∀u∈news,u.oneCell'=true)(q:Nat)(hq:q<news.length):(news.getD q undef).oneCell'=true:=by
 grind
def eG.less {f f':Nat->Option bM}{ν:List (Nat×Nat)}(h:eG ν x f)(hf:∀l,f' l=f l\/f' l=none\/x.β l=none):eG ν x f':=by
 refine⟨fun l blk b base tot e1 e2=>?_,fun l1 l2 b base tot base' tot' e1 e2 e3 e4=>?_,h.imm,h.dW,h.gd⟩
 .rcases hf l with e|e|e
  .exact h.own l blk b base tot (e▸e1) e2
  .rw[e]at e1;cases e1
  .rw[e]at e2;cases e2
 .refine h.inj l1 l2 b base tot base' tot' ?_ ?_ e3 e4
  .grind
  grind
def zA {f':Nat->Option bM}{t u ty e:TypeId}{ti:TypeInfo}{z:Value}{k:Nat}{base:Option Addr}{sLen sCap mm:Nat}{olds news:List Value}{xv:Value}{es1 E:List D}
  (hs:eG C.ν x f) (hL:x.β L=none) (ht:C.P.underlying t=some (.slice e)) (hi:C.P.info? e=some ti) (hz:ti.zero=some z) (hzd:z.cells.size=ti.size) (hk:ti.size=k) (hk0:k≠0) (hby:ti.bytes<=65536)
  (hold:(Builtin.firstCells k sLen (.slice base sLen sCap)).run C.P x.w.drew=.ok olds.toArray x.w.drew) (hol:olds.length=sLen*k) (h1:es1.length=sLen) (h2:E.length=mm)
  (ho:∀i,i<sLen->(es1.getD i .any).cells.length=k/\∀j,j<k->(olds.getD (i*k+j) undef).oneCell'=true/\RD C.ν x (olds.getD (i*k+j) undef) ((es1.getD i .any).cells.getD j .any))
  (hsrc:Go.Src C.P k u xv mm news x.w) (hn:∀i,i<mm->(E.getD i .any).cells.length=k/\∀j,j<k->RD C.ν x (news.getD (i*k+j) undef) ((E.getD i .any).cells.getD j .any))
  (hg:sCap<sLen+mm) (hle:sLen+mm<=1073741824) (hf:∀l,l≠L->f' l=f l\/f' l=none) (hfL:f' L=some (.buf k (es1++E)))
  {r:Result Next} (hr:r=((Builtin.append_ #[t,u] ty #[.slice base sLen sCap,xv]).run C.P x.w).andThen fun v w'=>.ok (.value v) w'):
  wA C.ν x f' L (.own L k 0 (sLen+mm)) r:=by
 subst hk;have hfit:=growslice_fits_wide (need:=sLen+mm) (old:=sCap) (bytes:=ti.bytes) hg (by
  have:(sLen+mm+(sLen+mm) /4+192)*ti.bytes<=(sLen+mm+(sLen+mm) /4+192)*65536:=Nat.mul_le_mul_left _ hby;omega)
 have hrun:=run_append_grow_src x.w t u ty e ti z ht hi hz base sLen sCap olds hold xv mm news hsrc hg ae hfit;have hcge:=grownCap_ge x.w (sLen+mm) sCap e;have hcle:=grownCap_le_maxLen x.w (sLen+mm) sCap e (by simp only[maxLen];omega);generalize grownCap x.w (sLen+mm) sCap e=cap at hrun hcge hcle;have hgrow:hH x.w (x.w.drew.alloc (.cells ((olds++news).toArray++Builtin.zeroCells z.cells (cap-(sLen+mm))) e)):=by
  refine⟨rfl,rfl,rfl, ?_,fun b hb=>?_⟩
  .have:=(hH.alloc x.w.drew (.cells ((olds++news).toArray++Builtin.zeroCells z.cells (cap-(sLen+mm))) e)).size;exact this
  .exact pz x.w.drew _ b hb
 have hlex:=yy (tot:=cap) hs hgrow hL;have hs':eG C.ν x (fun l=>if f' l=none then none else f l):=hs.less (fun l=>by
  by_cases h:f' l=none
  .right;left;simp[h]
  .left;simp[h])
 refine mV (f:=fun l=>if f' l=none then none else f l) (v:=.slice (some ⟨x.w.heap.size,0,none⟩) (sLen+mm) cap) (tot:=cap) (blk:=.buf ti.size (es1++E)) hs' hL hgrow ?_ ?_ ?_ ?_ (fun l=>?_)
 .show x.w.heap.size<(x.w.drew.heap.push _).size;rw[Array.size_push];exact Nat.lt_succ_self _
 .exact F9 (n:=sLen) (mm:=mm) (olds:=olds) (news:=news) (T:=e) (zs:=Builtin.zeroCells z.cells (cap-(sLen+mm))) _ _ hk0 hol hsrc.newsLen h1 h2 hcge
   (by rw[size_zeroCells,hzd]) (fk x.w.drew _)
   (fun i hi=>⟨(ho i hi).1,fun j hj=>⟨((ho i hi).2 j hj).1,((ho i hi).2 j hj).2.mono hlex⟩⟩)
   (fun i hi=>⟨(hn i hi).1,fun j hj=>⟨IM hsrc.one _ (by rw[hsrc.newsLen];exact gO hi hj),((hn i hi).2 j hj).mono hlex⟩⟩)
 .exact .own L _ 0 (sLen+mm) x.w.heap.size 0 cap cap ⟨x.w.heap.size,0,none⟩ (by simp[eX]) (fun _=>bh) hcge hcle ae
 .rw[hr,hrun];rfl
 .by_cases e:l=L
  .subst e;simp[j9,hfL]
  .simp only[j9,e,aL];rcases hf l e with h|h
   .by_cases h':f' l=none
    .rw[aw h'];exact h'
    .rw[ai h'];exact h
   .rw[aw h];exact h
def sF {t u ty e:TypeId}{k:Nat}{ti:TypeInfo}{a:Addr}{sLen sCap:Nat}{xv:Value}(ht:C.P.underlying t=some (.slice e))(hi:C.P.info? e=some ti)(hk:ti.size=k)(hsrc:Go.Src C.P k u xv 0 [] x.w)(hc:sLen<=sCap):
  (Builtin.append_ #[t,u] ty #[.slice (some a) sLen sCap,xv]).run C.P x.w=.ok (.slice (some a) sLen sCap) x.w:=by
 subst hk;rcases hsrc.kind with⟨e',hk⟩|hk<;>simp[Builtin.append_,run_underlying ht,run_underlying hk,sizeOf,typeInfo,hi,hsrc.len,hc,hsrc.cells,storeCells]
def yh {t u ty e:TypeId}{k:Nat}{ti:TypeInfo}{xv:Value}(ht:C.P.underlying t=some (.slice e))(hi:C.P.info? e=some ti)(hk:ti.size=k)(hsrc:Go.Src C.P k u xv 0 [] x.w):
  (Builtin.append_ #[t,u] ty #[.slice none 0 0,xv]).run C.P x.w=.ok (.slice none 0 0) x.w:=by
 subst hk;rcases hsrc.kind with⟨e',hk⟩|hk<;>simp[Builtin.append_,run_underlying ht,run_underlying hk,sizeOf,typeInfo,hi,hsrc.len,hsrc.cells,storeCells]
def On {o:Oper}{i:aG}{p q:Operand}{t u:TypeId}(hc:C.op defs o=some i)(ho:o.op=.call {callee:=.builtin .append,args:=#[p,q],argTypes:=#[t,u]})(hρ:pI C defs J ev x o.op.operands.toList)(hob:i.dF Y J m)(hs:eG C.ν x f)(hag:ye f m (i.kV J))(hL:x.β L=none):
  wA C.ν x (iB f (i.wr J L) (i.cC Y J m L)) L (i.val Y J m L) ((execOp ev o).run C.P x.w):=by
 have hcc:∃a b e,C.src defs p=some a/\C.src defs q=some b/\C.P.underlying t=some (.slice e)/\((∃e',C.P.underlying u=some (.slice e'))\/C.P.underlying u=some .string)/\
   ¬(C.P.cellsOf e=0\/C.P.bytesOf e>65536\/C.P.bytesOf e=0\/mJ C.P e=false)/\i=.app (C.P.cellsOf e) a b:=by
  simp only[CC.op,ho]at hc;split at hc
  .rename_i a b e e' h1 h2 h3 h4;split at hc
   .cases hc
   .rename_i hn;simp only[aZ]at hc;exact⟨a,b,e,h1,h2,h3,.inl ⟨_,h4⟩,hn,hc.symm⟩
  .rename_i a b e h1 h2 h3 h4;split at hc
   .cases hc
   .rename_i hn;simp only[aZ]at hc;exact⟨a,b,e,h1,h2,h3,.inr h4,hn,hc.symm⟩
  .cases hc
 obtain⟨a,b,e,h1,h2,hu,hu2,hn,rfl⟩:=hcc;have hce:C.P.cellsOf e≠0:=fun h=>hn (.inl h)
 obtain⟨ti,hti,htis⟩:=lV hce;have hby:ti.bytes<=65536:=by
  have:¬C.P.bytesOf e>65536:=fun h=>hn (.inr (.inl h))
  simp[Program.bytesOf,hti]at this;omega
 obtain⟨z,hz,hzl⟩:∃z,nv C.P e=some z/\z.cells.length=C.P.cellsOf e:=by
  have hzf:mJ C.P e=true:=by
   cases h:mJ C.P e
   .exact absurd (.inr (.inr (.inr h))) hn
   .rfl
  unfold mJ at hzf;split at hzf
  .rename_i z hz;exact⟨z,hz,by simpa using hzf⟩
  .cases hzf
 obtain⟨ti',z',hti',hzv,hzr⟩:=kW (x:=x) hz;obtain rfl:ti'=ti:=by rw[hti]at hti';exact(bg hti').symm
 obtain⟨k1,k2,k3,k4⟩:=hob;have hv:=hρ p (by simp[ho,Op.operands,Call.operands]) a h1 k1;have hw:=hρ q (by simp[ho,Op.operands,Call.operands]) b h2 k2;have hag2:∀l,l∈cZ (J b).d->f l=look m l:=fun l hl=>hag l (by simp;exact .inr hl)
 have hag1:∀l,l∈cZ (J a).d->f l=look m l:=fun l hl=>hag l (by simp;exact .inl hl)
 obtain⟨news,hsrc,hnews⟩:=O1 (u:=u) hce (hu2.imp (fun⟨e',h⟩=>⟨e',h⟩) id) hw k3 hs hag2;have hsz:z'.cells.size=ti'.size:=by have:=(hzr.cells ae).1;omega
 have hr:(execOp ev o).run C.P x.w=((Builtin.append_ #[t,u] o.type #[ev p,ev q]).run C.P x.w).andThen fun v w'=>.ok (.value v) w':=by
  simp[execOp,ho,resolve,invoke,builtin]
 generalize hels:nw m (J b).d=E at*
 generalize hep:ev p=vp at*

 have nobase:∀(a0:Option Addr) (f':Nat->Option bM),vp=.slice a0 0 0->E.length<=1073741824->(∀l,l≠L->f' l=f l\/f' l=none)->f' L=some (.buf (C.P.cellsOf e) E)->
   wA C.ν x f' L (.own L (C.P.cellsOf e) 0 E.length) ((execOp ev o).run C.P x.w):=by
  intro a0 f' hvp hle hf hfL;subst hvp;by_cases hm0:E.length=0
  .have hn0:news=[]:=iO (by rw[hsrc.newsLen,hm0];simp);rw[hm0]at hsrc⊢;subst hn0;have hap:(Builtin.append_ #[t,u] o.type #[.slice a0 0 0,ev q]).run C.P x.w=.ok (.slice a0 0 0) x.w:=by
    cases a0 with
    |none=>exact yh hu hti htis hsrc
    |some a=>exact sF hu hti htis hsrc (aE _)
   rw[hr,hap];refine⟨.slice a0 0 0,x,.inl rfl,.refl x,.own0 L _ 0 a0,hs.less fun l=>?_,fun _ _=>rfl⟩;by_cases e:l=L
   .subst e;exact .inr (.inr hL)
   .rcases hf l e with h|h
    .exact .inl h
    .exact .inr (.inl h)
  .have:=zA (f':=f') (base:=a0) (sLen:=0) (sCap:=0) (olds:=[]) (es1:=[]) (E:=E) (mm:=E.length) hs hL hu hti hzv hsz htis hce hby
    (by cases a0<;>simp[Builtin.firstCells,loadCells,loadCellsFrom]) bh rfl rfl (fun i hi=>ae) hsrc hnews ae ae hf (by simpa using hfL) hr
   simpa using this
 cases hd:(J a).d<;>simp only[hd]at k4
 ·
  have he:(aG.app (C.P.cellsOf e) a b).cC Y J m L=cS m L (.buf (C.P.cellsOf e) E):=by simp[aG.cC,hd,hels]
  have hva:(aG.app (C.P.cellsOf e) a b).val Y J m L=.own L (C.P.cellsOf e) 0 E.length:=by simp[aG.val,hd,hels]
  have hwr:(aG.app (C.P.cellsOf e) a b).wr J L=[L]:=by simp[aG.wr,hd,cZ]
  rw[he,hva,hwr];rw[hd]at hv;cases hv;exact nobase _ _ rfl k4 (fun l hl=>.inl (by simp[iB,hl])) (by simp[iB,c9])
 .rename_i l k' i n;obtain⟨rfl,hbk,hle⟩:=k4;rw[hd]at hv;have he:(aG.app (C.P.cellsOf e) a b).cC Y J m L=cS (ct m l) L (.buf (C.P.cellsOf e) ((((aW m l).drop i).take n)++E)):=by simp[aG.cC,hd,hels]
  have hva:(aG.app (C.P.cellsOf e) a b).val Y J m L=.own L (C.P.cellsOf e) 0 (n+E.length):=by simp[aG.val,hd,hels]
  have hwr:(aG.app (C.P.cellsOf e) a b).wr J L=[L,l]:=by simp[aG.wr,hd,cZ]
  rw[he,hva,hwr];have hff:∀l',l'≠L->iB f [L,l] (cS (ct m l) L (.buf (C.P.cellsOf e) ((((aW m l).drop i).take n)++E))) l'=if l'=l then none else f l':=by
   intro l' hl';by_cases e1:l'=l
   .subst e1;simp[iB,c9,gu,hl']
   .simp[iB,hl',e1]
  have hffL:iB f [L,l] (cS (ct m l) L (.buf (C.P.cellsOf e) ((((aW m l).drop i).take n)++E))) L=some (.buf (C.P.cellsOf e) ((((aW m l).drop i).take n)++E)):=by simp[iB,c9]
  have hff':∀l',l'≠L->iB f [L,l] (cS (ct m l) L (.buf (C.P.cellsOf e) ((((aW m l).drop i).take n)++E))) l'=f l'\/iB f [L,l] (cS (ct m l) L (.buf (C.P.cellsOf e) ((((aW m l).drop i).take n)++E))) l'=none:=by
   intro l' hl';rw[hff l' hl'];by_cases e1:l'=l
   .rw[aw e1];exact .inr rfl
   .rw[ai e1];exact .inl rfl
  cases hv with
  |own0=>
   have:=nobase _ (iB f [L,l] (cS (ct m l) L (.buf (C.P.cellsOf e) ((((aW m l).drop i).take 0)++E)))) rfl ae hff' (by simpa using hffL);simpa using this
  |own _ _ _ _ bk base tot cap ad hβ ha hcap hm ht=>
   obtain⟨g1,g2,g3⟩:=pJ hs (hag1 l (by simp[hd,cZ])) hbk;obtain⟨hnI,hk0',ht',c,T,fr,q1,q2,q3,q4⟩:=hs.own l _ bk base tot g1 hβ;have hlen1:(((aW m l).drop i).take n).length=n:=fL _ _ _ g2;have hgt:∀j,j<n->(((aW m l).drop i).take n).getD j .any=(aW m l).getD (i+j) .any:=fun j hj=>dT _ _ _ _ _ hj
   by_cases hroom:n+E.length<=cap
   ·
    have hcsz:base+i*C.P.cellsOf e+cap*C.P.cellsOf e<=c.size:=by
     have:i*C.P.cellsOf e+cap*C.P.cellsOf e<=tot*C.P.cellsOf e:=by rw[<-Nat.add_mul];exact iN _ ae
     omega
    have hnc:n*C.P.cellsOf e+news.length<=cap*C.P.cellsOf e:=by rw[hsrc.newsLen,<-Nat.add_mul];exact iN _ hroom
    have hrun:(Builtin.append_ #[t,u] o.type #[.slice (some ad) n cap,ev q]).run C.P x.w=.ok (.slice (some ad) (n+E.length) cap) (x.w.setCells bk (base+i*C.P.cellsOf e+n*C.P.cellsOf e) news):=by
     by_cases hc0:cap=0
     .have hm0:E.length=0:=ae;have hn0:news=[]:=iO (by rw[hsrc.newsLen,hm0];simp);subst hn0;rw[hm0]at hsrc⊢;rw[sF hu hti htis hsrc hcap];rfl
     .have ha':=ha ae;subst ha';have:=run_append_room_src x.w t u o.type e ti' hu hti bk (base+i*C.P.cellsOf e) n cap (ev q) E.length news (by rw[htis];exact hsrc) hroom
       (fun j hj=>by rw[htis,cell_of_heap q1 ae];rfl)
       (fun j hj=>by
         rw[htis];have:=q3 (base+i*C.P.cellsOf e+n*C.P.cellsOf e+j) ae;simp only[World.frozen?,q1];simp only[gU,dA];omega)
      rw[htis]at this;exact this
    obtain⟨c',s1,s2,s3⟩:=ma bk news (base+i*C.P.cellsOf e+n*C.P.cellsOf e) x.w c T fr q1 ae;obtain⟨f1,f2,f3,f4⟩:=lr bk news (base+i*C.P.cellsOf e+n*C.P.cellsOf e) x.w;generalize hw':x.w.setCells bk (base+i*C.P.cellsOf e+n*C.P.cellsOf e) news=w' at*
    have hother:∀b',b'≠bk->w'.heap[b']? =x.w.heap[b']? :=fun b' hb'=>by rw[<-hw'];exact lu bk _ _ _ b' hb'
    have hlL:l≠L:=fun e1=>by subst e1;rw[hβ]at hL;cases hL
    have hstep:Step x ⟨w',x.I,eX x.β L (bk,base+i*C.P.cellsOf e,cap)⟩:=by
     refine⟨f1,f2,f3,by show _<=w'.heap.size;rw[f4];exact aE _,fun _ h=>h,fun b' hb'=>hother b' (fun e1=>hnI (e1▸hb')),fun l' p' hp=>?_,
      fun b' _ hn'=>hother b' (fun e1=>hn' l _ hβ e1.symm),fun _ h=>.inl h,fun l' p' hp=>?_⟩
     .have:l'≠L:=fun e1=>by rw[e1,hL]at hp;cases hp
      simp[eX,this,hp]
     .by_cases e1:l'=L
      .simp only[eX,e1,aN,aZ]at hp;exact .inr (.inr ⟨l,_,hβ,by rw[<-hp]⟩)
      .simp only[eX,e1,aL]at hp;exact .inl hp
    have hle2:=hstep.le;rw[hr,hrun];refine⟨_,⟨w',x.I,eX x.β L (bk,base+i*C.P.cellsOf e,cap)⟩,.inl rfl,hstep,
     .own L _ 0 _ bk (base+i*C.P.cellsOf e) cap cap ad (by simp[eX]) (fun h=>by rw[ha h];simp) hroom hm ae, ?_,fun l' hl'=>by simp[eX,hl']⟩
    have hblk:lO C.ν ⟨w',x.I,eX x.β L (bk,base+i*C.P.cellsOf e,cap)⟩ bk (base+i*C.P.cellsOf e) cap (.buf (C.P.cellsOf e) ((((aW m l).drop i).take n)++E)):=by
     refine⟨hk0',by rw[cK,hlen1];exact hroom,c',T,fr,s1,ae,fun o'' ho''=>q3 o'' ae,fun i' hi'=>?_⟩;rw[cK,hlen1]at hi';rw[df,hlen1];by_cases hi2:i'<n
     .rw[aw hi2,hgt i' hi2];refine⟨(q4 (i+i') ae).1,fun j hj=>?_⟩;have hlt:=gO hi2 hj;rw[s3,ai ae];have:=(q4 (i+i') ae).2 j hj;rw[show base+(i+i')*C.P.cellsOf e+j=base+i*C.P.cellsOf e+i'*C.P.cellsOf e+j by rw[Nat.add_mul];omega]at this;exact⟨this.1,this.2.mono hle2⟩
     .rw[ai hi2];obtain⟨a1,a2⟩:=hnews (i'-n) ae;refine⟨a1,fun j hj=>?_⟩;have hnk:n*C.P.cellsOf e<=i'*C.P.cellsOf e:=iN _ ae;have hlt:=gO (show i'-n<E.length by omega) hj;rw[<-hsrc.newsLen,Nat.sub_mul]at hlt;rw[s3,aw ae,show base+i*C.P.cellsOf e+i'*C.P.cellsOf e+j-(base+i*C.P.cellsOf e+n*C.P.cellsOf e)=(i'-n)*C.P.cellsOf e+j by rw[Nat.sub_mul];omega];exact⟨IM hsrc.one _ (by rw[Nat.sub_mul];omega),(a2 j hj).mono hle2⟩
    refine⟨fun l' blk b' base' tot' e1 e2=>?_,fun l1 l2 b' base' tot' base'' tot'' e1 e2 e3 e4=>?_,fun b' hb'=>by show b'<w'.heap.size;rw[f4];exact hs.imm b' hb',fun l' b' base' tot' e1=>?_,qM hstep.le hs.gd⟩
    .by_cases h:l'=L
     .subst h;rw[hffL]at e1;simp only[eX,aN,aZ,ea]at e2;obtain⟨rfl,rfl,rfl⟩:=e2;obtain rfl:=bg e1;exact⟨hnI,hblk⟩
     .rw[hff l' h]at e1;by_cases h2:l'=l
      .rw[aw h2]at e1;cases e1
      .rw[ai h2]at e1;simp only[eX,h,aL]at e2;obtain⟨a1,a2⟩:=hs.own l' blk b' base' tot' e1 e2;refine⟨a1,a2.mono hle2 (hother b' (fun eb=>?_))⟩;subst eb;exact h2 (hs.inj l' l b' base' tot' base tot (by rw[e1];simp) (by rw[g1];simp) e2 hβ)
    .have key:∀l1 b1 base1 tot1,l1≠L->iB f [L,l] (cS (ct m l) L (.buf (C.P.cellsOf e) ((((aW m l).drop i).take n)++E))) l1≠none->x.β l1=some (b1,base1,tot1)->b1≠bk/\f l1≠none:=by
      intro l1 b1 base1 tot1 h1' h2' h3';rw[hff l1 h1']at h2';by_cases h:l1=l
      .rw[aw h]at h2';exact absurd rfl h2'
      .rw[ai h]at h2';refine⟨fun eb=>?_,h2'⟩;subst eb;exact h (hs.inj l1 l b1 base1 tot1 base tot h2' (by rw[g1];simp) h3' hβ)
     by_cases h1':l1=L<;>by_cases h2':l2=L
     .rw[h1',h2']
     .exfalso;simp only[eX,h1',aN,aZ,ea]at e3;simp only[eX,h2',aL]at e4;exact(key l2 b' _ _ h2' e2 e4).1 e3.1.symm
     .exfalso;simp only[eX,h2',aN,aZ,ea]at e4;simp only[eX,h1',aL]at e3;exact(key l1 b' _ _ h1' e1 e3).1 e4.1.symm
     .simp only[eX,h1',aL]at e3;simp only[eX,h2',aL]at e4;exact hs.inj l1 l2 b' base' tot' base'' tot'' (key l1 b' _ _ h1' e1 e3).2 (key l2 b' _ _ h2' e2 e4).2 e3 e4
    .show b'<w'.heap.size;rw[f4];by_cases h:l'=L
     .simp only[eX,h,aN,aZ,ea]at e1;obtain⟨rfl,_,_⟩:=e1;exact hs.dW l _ _ _ hβ
     .simp only[eX,h,aL]at e1;exact hs.dW l' _ _ _ e1
   ·
    have hold:∃olds:List Value,(Builtin.firstCells (C.P.cellsOf e) n (.slice (some ad) n cap)).run C.P x.w.drew=.ok olds.toArray x.w.drew/\olds.length=n*C.P.cellsOf e/\
      ∀j,j<n->∀j',j'<C.P.cellsOf e->(olds.getD (j*C.P.cellsOf e+j') undef).oneCell'=true/\RD C.ν x (olds.getD (j*C.P.cellsOf e+j') undef) (((aW m l).getD (i+j) .any).cells.getD j' .any):=by
     by_cases hn0:n=0
     .subst hn0;exact⟨[],by simp[Builtin.firstCells,loadCells,loadCellsFrom],bh,fun j hj=>ae⟩
     .have ha':=ha ae;subst ha';have hqd:∀q,q<n*C.P.cellsOf e->q/C.P.cellsOf e<n/\q%C.P.cellsOf e<C.P.cellsOf e/\q/C.P.cellsOf e*C.P.cellsOf e+q%C.P.cellsOf e=q:=fun q hq=>
       ⟨Nat.div_lt_of_lt_mul (by rw[Nat.mul_comm];exact hq),Nat.mod_lt _ ae,by rw[Nat.mul_comm];exact Nat.div_add_mod q _⟩
      have hbase:∀q,q<n*C.P.cellsOf e->base+i*C.P.cellsOf e+q<c.size:=fun q hq=>by
       have:i*C.P.cellsOf e+n*C.P.cellsOf e<=tot*C.P.cellsOf e:=by rw[<-Nat.add_mul];exact iN _ ae
       omega
      refine⟨(List.range (n*C.P.cellsOf e)).map fun q=>c.getD (base+i*C.P.cellsOf e+q) undef, ?_,bh,fun j hj j' hj'=>?_⟩
      .refine run_firstCells_some x.w.drew _ n _ n cap _ bh (fun j u' hj=>?_);obtain⟨hj2,rfl⟩:=List.getElem?_eq_some_iff.1 hj;simp at hj2;rw[Addr.wC];simp only[List.getElem_map,List.getElem_range];exact cell_of_heap (w:=x.w.drew) q1 (hbase j hj2)
      .have hlt:=gO hj hj';have e1:((List.range (n*C.P.cellsOf e)).map fun q=>c.getD (base+i*C.P.cellsOf e+q) undef).getD (j*C.P.cellsOf e+j') undef=c.getD (base+(i+j)*C.P.cellsOf e+j') undef:=by
        simp only[List.getD,List.getElem?_map,List.getElem?_range hlt,Option.map_some,Option.getD_some];congr 1;rw[Nat.add_mul];omega
       rw[e1];exact(q4 (i+j) ae).2 j' hj'
    obtain⟨olds,o1,o2,o3⟩:=hold;refine zA (base:=some ad) (sLen:=n) (sCap:=cap) (olds:=olds) (es1:=((aW m l).drop i).take n) (E:=E) (mm:=E.length) hs hL hu hti hzv hsz htis hce hby
     o1 o2 hlen1 rfl (fun j hj=>?_) hsrc hnews ae ae hff' hffL hr
    rw[hgt j hj];exact⟨(q4 (i+j) ae).1,o3 j hj⟩
end
end
section
variable [dq]
section
variable {ν:List (Nat×Nat)} {x:X} {f:Nat->Option bM} {m:List (Nat×bM)}
def X.kK (x:X)(f:Nat->Option bM):X:=⟨x.w,fun b=>x.I b\/∃l p,x.β l=some p/\p.1=b/\f l≠none,x.β⟩
def lL (x:X)(f:Nat->Option bM):Le x (x.kK f):=⟨fun _ h=>.inl h,fun _ _=>rfl,fun _ _ h=>h⟩
theorem D.oV (ds:List D):(D.agg ds).bc=aV ds:=by simp[D.bc]
def qB {l k n:Nat}(hs:eG ν x f)(hag:∀l,look m l≠none->f l=look m l)(hb:eg m l k n){b base tot:Nat}(hβ:x.β l=some (b,base,tot)):
  f l=some (.buf k (aW m l))/\n<=(aW m l).length/\¬x.I b/\lO ν x b base tot (.buf k (aW m l)):=by
 have hne:look m l≠none:=by
  intro h;simp[eg,h]at hb
 obtain⟨g1,g2,_⟩:=pJ hs (hag l hne) hb;exact⟨g1,g2,hs.own l _ b base tot g1 hβ⟩
def vS {k:Nat}{es:List D}{cs:List Sh}{g:Nat->Nat->Value}(hk0:0<k)
  (hV:∀(e:D) (c:Nat->Value),e.cells.length=k->(∀j,j<k->RD ν x (c j) (e.cells.getD j .any))->gD m cs e->
    (iH m cs e).cells.length=k/\(iH m cs e).bc=true/\∀j,j<k->RD ν (x.kK f) (c j) ((iH m cs e).cells.getD j .any))
  (hes:∀i,i<es.length->(es.getD i .any).cells.length=k/\∀j,j<k->RD ν x (g i j) ((es.getD i .any).cells.getD j .any))
  (ho:∀e∈es,gD m cs e) (i:Nat) (hi:i<es.length):
  ((es.map (iH m cs)).getD i .any).cells.length=k/\((es.map (iH m cs)).getD i .any).bc=true/\∀j,j<k->RD ν (x.kK f) (g i j) (((es.map (iH m cs)).getD i .any).cells.getD j .any):=by
 have e1:(es.map (iH m cs)).getD i .any=iH m cs (es.getD i .any):=by simp[List.getD,hi]
 rw[e1];exact hV _ (g i) (hes i hi).1 (hes i hi).2 (ho _ (by rw[m4 _ _ _ hi];exact List.getElem_mem _))
mutual
theorem qc (hs:eG ν x f)(hag:∀l,look m l≠none->f l=look m l):∀(s:Sh) (v:Value) (d:D),RD ν x v d->iT m s d->
  RD ν (x.kK f) v (lj m s d)/\(lj m s d).bc=true/\(d.cells.length=1->d.isAgg=false->(lj m s d).cells=[lj m s d])
 | .a,v,d,h,ho=>by
  simp only[iT]at ho;have hm:RD ν (x.kK f) v d:=h.mono (lL x f);cases d<;>simp only[lj]<;>first
   |exact⟨hm,ho,fun h1 h2=>by simp_all[D.cells,D.isAgg]⟩
   |skip
  cases h;exact⟨.sl none 0 0 0 0 0 [] (fun _ _=>undef) rfl (.inl rfl) (aE _) (by simp[maxLen]) (fun _ h=>ae) (fun _ h=>ae) (fun _ _ h=>ae) (fun _ _ h=>ae) (fun _ _ h=>ae),rfl,fun _ _=>rfl⟩
 | .sl k cs,v,d,h,ho=>by
  have hm:RD ν (x.kK f) v d:=h.mono (lL x f);cases d<;>simp only[lj]<;>simp only[iT]at ho<;>first
   |exact⟨hm,ho,fun h1 h2=>by simp_all[D.cells,D.isAgg]⟩
   |skip
  .cases h;exact⟨.sl none 0 0 0 0 k [] (fun _ _=>undef) rfl (.inl rfl) (aE _) (by simp[maxLen]) (fun _ h=>by simp at h) (fun _ h=>by simp at h) (fun _ _ h=>by simp at h) (fun _ _ h=>by simp at h) (fun _ _ h=>by simp at h),rfl,fun _ _=>rfl⟩
  .rename_i l k' i c;obtain⟨hb,hel⟩:=ho;cases h with
   |own0=>
    simp only[List.take_zero,List.map_nil];exact⟨.sl _ 0 0 0 0 k' [] (fun _ _=>undef) rfl (.inl rfl) (aE _) (by simp[maxLen]) (fun _ h=>by simp at h) (fun _ h=>by simp at h) (fun _ _ h=>by simp at h) (fun _ _ h=>by simp at h) (fun _ _ h=>by simp at h),rfl,fun _ _=>rfl⟩
   |own _ _ _ _ b base tot cap a hβ ha hcap hmx ht=>
    obtain⟨g1,g2,hnI,hk0,ht',cc,T,fr,q1,q2,q3,q4⟩:=qB hs hag hb hβ;have hlen:(((aW m l).drop i).take c).length=c:=fL _ _ _ g2;have hgt:∀j,j<c->(((aW m l).drop i).take c).getD j .any=(aW m l).getD (i+j) .any:=fun j hj=>dT _ _ _ _ _ hj
    have hrow:=vS (f:=f) (k:=k') (cs:=cs) (es:=((aW m l).drop i).take c) (g:=fun i' j=>cc.getD (base+(i+i')*k'+j) undef) hk0 (qd hs hag cs)
     (fun i' hi'=>by
       rw[hlen]at hi';rw[hgt i' hi'];exact⟨(q4 (i+i') ae).1,fun j hj=>((q4 (i+i') ae).2 j hj).2⟩) hel
    refine⟨.sl (some a) b (base+i*k') c cap k' _ (fun i' j=>cc.getD (base+(i+i')*k'+j) undef) (by rw[aK,hlen]) ?_ hcap hmx (fun i' hi'=>(hrow i' ae).1) (fun i' hi'=>(hrow i' ae).2.1) (fun i' j hi' hj=>?_) (fun i' j hi' hj=>?_) (fun i' j hi' hj=>(hrow i' ae).2.2 j hj),rfl,fun _ _=>rfl⟩
    .by_cases hc0:c=0
     .left;exact iO (by simp[hlen,hc0])
     .right;exact⟨by rw[ha ae],.inr ⟨l,_,hβ,rfl,by rw[g1];simp⟩⟩
    .have h1:=gO (tot:=tot) (show i+i'<tot by omega) hj;show x.w.cell? _=_;rw[<-cell_of_heap q1 (by omega:base+(i+i')*k'+j<cc.size)];congr 2;rw[Nat.add_mul];omega
    .exact((q4 (i+i') ae).2 j hj).1
 | .pt cs,v,d,h,ho=>by
  have hm:RD ν (x.kK f) v d:=h.mono (lL x f);cases d<;>simp only[lj]<;>simp only[iT]at ho<;>first
   |exact⟨hm,ho,fun h1 h2=>by simp_all[D.cells,D.isAgg]⟩
   |skip
  rename_i l k' i o;obtain⟨hb,hel⟩:=ho;cases h with
  |ptr _ _ _ _ b base tot at_ hβ hat=>
   obtain⟨g1,g2,hnI,hk0,ht',cc,T,fr,q1,q2,q3,q4⟩:=qB hs hag hb hβ;have hrow:=vS (f:=f) (k:=k') (cs:=cs) (es:=aW m l) (g:=fun i' j=>cc.getD (base+i'*k'+j) undef) hk0 (qd hs hag cs)
    (fun i' hi'=>⟨(q4 i' hi').1,fun j hj=>((q4 i' hi').2 j hj).2⟩) hel
   refine⟨.ref b base k' i o at_ _ (fun i' j=>cc.getD (base+i'*k'+j) undef) (.inr ⟨l,_,hβ,rfl,by rw[g1];simp⟩) hat (fun i' hi'=>(hrow i' (by simpa using hi')).1) (fun i' hi'=>(hrow i' (by simpa using hi')).2.1)
    (fun i' j hi' hj=>?_) (fun i' j hi' hj=>((q4 i' (by simpa using hi')).2 j hj).1) (fun i' j hi' hj=>(hrow i' (by simpa using hi')).2.2 j hj),rfl,fun _ _=>rfl⟩
   have h1:=gO (tot:=tot) (show i'<tot by simp at hi';omega) hj;exact cell_of_heap q1 ae
 | .kp cs,v,d,h,ho=>by
  have hm:RD ν (x.kK f) v d:=h.mono (lL x f);cases d<;>simp only[lj]<;>simp only[iT]at ho<;>first
   |exact⟨hm,ho,fun h1 h2=>by simp_all[D.cells,D.isAgg]⟩
   |skip
  rename_i l k' i c;obtain⟨hb,hel⟩:=ho;cases h with
  |own0=>
   simp only[List.take_zero,List.map_nil];exact⟨.sl _ 0 0 0 0 k' [] (fun _ _=>undef) rfl (.inl rfl) (aE _) (by simp[maxLen]) (fun _ h=>by simp at h) (fun _ h=>by simp at h) (fun _ _ h=>by simp at h) (fun _ _ h=>by simp at h) (fun _ _ h=>by simp at h),rfl,fun _ _=>rfl⟩
  |own _ _ _ _ b base tot cap a hβ ha hcap hmx ht=>
   obtain⟨g1,g2,hnI,hk0,ht',cc,T,fr,q1,q2,q3,q4⟩:=qB hs hag hb hβ;have hlen:(((aW m l).drop i).take c).length=c:=fL _ _ _ g2;have hgt:∀j,j<c->(((aW m l).drop i).take c).getD j .any=(aW m l).getD (i+j) .any:=fun j hj=>dT _ _ _ _ _ hj
   have hrow:=vS (f:=f) (k:=k') (cs:=cs) (es:=((aW m l).drop i).take c) (g:=fun i' j=>cc.getD (base+(i+i')*k'+j) undef) hk0 (qd hs hag cs)
    (fun i' hi'=>by
      rw[hlen]at hi';rw[hgt i' hi'];exact⟨(q4 (i+i') ae).1,fun j hj=>((q4 (i+i') ae).2 j hj).2⟩) hel
   refine⟨.sl (some a) b (base+i*k') c cap k' _ (fun i' j=>cc.getD (base+(i+i')*k'+j) undef) (by rw[aK,hlen]) ?_ hcap hmx (fun i' hi'=>(hrow i' ae).1) (fun i' hi'=>(hrow i' ae).2.1) (fun i' j hi' hj=>?_) (fun i' j hi' hj=>?_) (fun i' j hi' hj=>(hrow i' ae).2.2 j hj),rfl,fun _ _=>rfl⟩
   .by_cases hc0:c=0
    .left;exact iO (by simp[hlen,hc0])
    .right;exact⟨by rw[ha ae],.inr ⟨l,_,hβ,rfl,by rw[g1];simp⟩⟩
   .have h1:=gO (tot:=tot) (show i+i'<tot by omega) hj;show x.w.cell? _=_;rw[<-cell_of_heap q1 (by omega:base+(i+i')*k'+j<cc.size)];congr 2;rw[Nat.add_mul];omega
   .exact((q4 (i+i') ae).2 j hj).1
theorem qd (hs:eG ν x f)(hag:∀l,look m l≠none->f l=look m l):∀(cs:List Sh){k:Nat} (e:D) (c:Nat->Value),e.cells.length=k->(∀j,j<k->RD ν x (c j) (e.cells.getD j .any))->gD m cs e->
  (iH m cs e).cells.length=k/\(iH m cs e).bc=true/\∀j,j<k->RD ν (x.kK f) (c j) ((iH m cs e).cells.getD j .any)
 |[],k,e,c,hk,hc,ho=>by
  simp only[iH];simp only[gD]at ho;exact⟨hk,ho,fun j hj=>(hc j hj).mono (lL x f)⟩
 |s::r,k,e,c,hk,hc,ho=>by
  cases e<;>simp only[iH]<;>simp only[gD]at ho<;>try
   (obtain⟨h1,h2,h3⟩:=qc hs hag s (c 0) _ (by simp only[D.cells,bA,bK]at hk;exact hc 0 ae) ho
    simp only[D.cells,bA,bK]at hk;rw[h3 rfl rfl];subst hk;exact⟨rfl,h2,fun j hj=>by obtain rfl:j=0:=ae
                                                                                    exact h1⟩)
  .simp only[D.cells,bK]at hk;subst hk;cases s<;>simp only[lj]<;>exact⟨rfl,rfl,fun j hj=>ae⟩
  .rename_i ds;obtain⟨a1,a2,a3⟩:=qe hs hag (s::r) ds c (fun j hj=>hc j (by simpa[D.cells]using hk▸hj)) ho;simp only[D.cells]at hk⊢;exact⟨a1.trans hk,by rw[D.oV];exact a2,fun j hj=>a3 j ae⟩
  .simp only[D.cells,bK]at hk;subst hk;cases s<;>simp only[lj,iT]at ho⊢ <;>exact⟨rfl,ho,fun j hj=>ae⟩
theorem qe (hs:eG ν x f)(hag:∀l,look m l≠none->f l=look m l):∀(cs:List Sh) (ds:List D) (c:Nat->Value),(∀j,j<ds.length->RD ν x (c j) (ds.getD j .any))->kE m cs ds->
  (mB m cs ds).length=ds.length/\aV (mB m cs ds)=true/\∀j,j<ds.length->RD ν (x.kK f) (c j) ((mB m cs ds).getD j .any)
 |[],ds,c,hc,ho=>by
  simp only[kE]at ho;exact⟨by simp[mB],by simpa[mB]using ho,fun j hj=>by simpa only[mB]using(hc j hj).mono (lL x f)⟩
 |s::r,[],c,hc,ho=>by
  exact⟨by simp[mB],by simp[mB,aV],fun j hj=>by simp at hj⟩
 |s::r,d::ds,c,hc,ho=>by
  simp only[mB];simp only[kE]at ho;obtain⟨h1,h2,_⟩:=qc hs hag s (c 0) d (by simpa using hc 0 bh) ho.1;obtain⟨a1,a2,a3⟩:=qe hs hag r ds (fun j=>c (j+1)) (fun j hj=>by simpa using hc (j+1) eo) ho.2;refine⟨by simp[a1],by simp[aV,h2,a2],fun j hj=>?_⟩;cases j with
  |zero=>simpa using h1
  |succ j=>simpa using a3 j (by simpa using hj)
end
def qf (hs:eG ν x f)(hag:∀l,look m l≠none->f l=look m l)(sh:List Sh)(v:Value)(d:D)(h:RD ν x v d)(ho:gD m sh d):RD ν (x.kK f) v (iH m sh d)/\(iH m sh d).bc=true:=by
 cases sh with
 |nil=>simp only[iH];simp only[gD]at ho;exact⟨h.mono (lL x f),ho⟩
 |cons s r=>
  cases d<;>simp only[iH]<;>simp only[gD]at ho<;>first
   |(obtain⟨h1,h2,_⟩:=qc hs hag s v _ h ho;exact⟨h1,h2⟩)
   |skip
  rename_i ds;cases h with
  |agg cs _ hl h1 h=>
   obtain⟨a1,a2,a3⟩:=qe hs hag (s::r) ds (fun j=>cs.getD j undef) h ho;exact⟨.agg cs _ (by rw[a1,hl]) (fun i hi=>h1 i ae) (fun i hi=>a3 i ae),by rw[D.oV];exact a2⟩
def iI (hs:eG ν x f)(hag:∀l,look m l≠none->f l=look m l):∀(ss:List (List Sh)) (ds:List D) (c:Nat->Value),(∀j,j<ds.length->RD ν x (c j) (ds.getD j .any))->iU m ss ds->
  (fU m ss ds).length=ds.length/\aV (fU m ss ds)=true/\∀j,j<ds.length->RD ν (x.kK f) (c j) ((fU m ss ds).getD j .any)
 |ss,[],c,hc,ho=>⟨by simp[fU],by simp[fU,aV],fun j hj=>by simp at hj⟩
 |[],d::r,c,hc,ho=>by
  simp only[iU]at ho;obtain⟨h1,h2⟩:=qf hs hag [.a] (c 0) d (by simpa using hc 0 bh) ho.1;obtain⟨a1,a2,a3⟩:=iI hs hag [] r (fun j=>c (j+1)) (fun j hj=>by simpa using hc (j+1) eo) ho.2
  grind [fU,aV]
 |s::ss,d::r,c,hc,ho=>by
  simp only[iU]at ho;obtain⟨h1,h2⟩:=qf hs hag s (c 0) d (by simpa using hc 0 bh) ho.1;obtain⟨a1,a2,a3⟩:=iI hs hag ss r (fun j=>c (j+1)) (fun j hj=>by simpa using hc (j+1) eo) ho.2
  grind [fU,aV]
end
end
end Go.Abs
