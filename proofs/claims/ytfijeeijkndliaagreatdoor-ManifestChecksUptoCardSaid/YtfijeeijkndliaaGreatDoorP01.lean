/- A part of the proofs. -/
import Derived.Attr
import Derived.ChangeKeysEq
import Derived.Deep.AppendSrc
import Derived.KernelRfl
import Derived.Laws.Cover4
import Derived.Lib.Strings
import Derived.MapKept
import Derived.WalkKit
import GoSem.Dispatch
import GoSem.Step
set_option linter.all false
set_option maxRecDepth 60000
set_option maxHeartbeats 2000000
section
namespace Go.Abs
def aM:=@List.length_cons
def aX:=@List.length_nil
def bC:=@decide_eq_false_iff_not
def bh:=@decide_eq_true_eq
def bq:=@Option.some.injEq
def ar:=@if_neg
def aC:=@if_pos
def bM:=@Bool.and_eq_true
def bH:=@List.length_append
def cq:=@Bool.not_eq_false'
def bE:=@Bool.not_eq_true'
def aH:=@Nat.le_refl
def bQ:=@Option.some.inj
def bB:=@List.length_map
def aZ:=@if_false
def ba:=@if_true
def bR:=@List.drop_zero
def bY:=@decide_eq_true
def bI:=@Nat.zero_add
def dt:=@Bool.or_eq_false_iff
def ez:=@List.forall_mem_cons
def ef:=@Bool.and_eq_false_iff
def eg:=@Option.map_eq_some_iff
def cy:=@decide_eq_false
def dw:=@Bool.or_eq_true
def fq:=@List.take_of_length_le
def eF:=@List.length_take
def eh:=@List.append_assoc
def cT:=@List.mem_singleton
def gP:=@Bool.false_eq_true
def eO:=@Prod.mk.injEq
def fF:=@Nat.mul_le_mul_right
def c7:=@Nat.le_trans
def cz:=@Nat.lt_of_lt_of_le
def fS:=@List.nil_append
def nO:=@List.eq_nil_of_length_eq_zero
def kS:=@List.drop_eq_getElem_cons
def fY:=@List.cons_append
def ca:=@List.mem_cons
def cj:=@true_and
def cb:=@and_true
def cH:=@false_and
def cK:=@and_false
def cC:=@and_self
def cn:=@Eq.trans
def ak:=@congrArg
def nP:=@List.drop_eq_nil_of_le
def gQ:=@List.append_nil
def nQ:=@List.suffix_refl
def kT:=@List.length_drop
def ek:=@List.not_mem_nil
def iY:=@UInt8.toNat_inj
def gL:=@List.getD_cons_zero
def gM:=@Bool.true_and
def kn:=@Bool.and_true
def eG:=@List.mem_map
def qR:=@List.cons.injEq
def pB:=@List.length_eq_zero_iff
def jN:=@List.mem_of_mem_take
def jO:=@decide_eq_decide
def iZ:=@Nat.lt_or_ge
def ae {p:Prop}(h:p:=by omega):p:=h
def cD {p:Prop}(h:p:=by simp only[List.length_cons,List.length_nil];omega):p:=h
def aG {p:Prop}(h:p:=by decide):p:=h
def c8 {p:Prop}(h:p:=by kernel_rfl):p:=h
def aI {p:Prop}(h:p:=by simp):p:=h
def dE {p:Prop}(h:p:=by dsimp only;omega):p:=h
def dk {p:Prop}(h:p:=by simp;omega):p:=h
def aW {p:Prop}(h:p:=by exact rfl):p:=h
end Go.Abs
def cU {α:Type}{a:Option α}{b c:α}(h:a=some b)(e:b=c:=by kernel_rfl):a=some c:=h.trans (congrArg some e)
end
namespace Go.Abs
inductive D where
 |any
 |bool (b:Bool)
 |int (k:IntKind) (n:Int)
 |str (s:List UInt8)
 |agg (cs:List D)
 |tup (ds:List D)
 |bg
 |sl (k:Nat) (es:List D)
 |ref (k:Nat) (es:List D) (i o:Nat)
 |ptr (l k i o:Nat)
 |own (l k i n:Nat)
 |nilp
 |fn (f:Nat) (caps:List D)
 |nilf
 |it (l:Nat)
 deriving Inhabited
inductive Src where
 |s (n:Nat)
 |l (p:Nat)
 |c (d:D)
 deriving Inhabited
inductive Sh where
 |a
 |sl (k:Nat) (cs:List Sh)
 |pt (cs:List Sh)
 deriving Inhabited
inductive CK where
 |b|i (k:IntKind)|s
 deriving Inhabited
inductive bd where
 |mv (x:Src)
 |pick (c a b:Src)
 |box (k:Nat) (x:Src)
 |build (z:List D) (parts:List (Nat×Nat×Src))
 |bsl (k:Nat) (z:D) (n:Nat) (parts:List (Nat×Src))
 |ld (n:Nat) (ag:Bool) (p:Src)
 |st (n:Nat) (p v:Src)
 |nilck (x:Src)
 |bin (op:BinOp) (x y:Src)
 |eqA (neg ag:Bool) (ks:List CK) (x y:Src)
 |un (op:UnOp) (x:Src)
 |cvi (k:IntKind) (x:Src)
 |mn (x y:Src)
 |s2b (x:Src)
 |b2s (x:Src)
 |i2s (x:Src)
 |mkf (f:Nat) (caps:List Src)
 |mks (k:Nat) (z:D) (ln cp:Src)
 |slS (x:Src) (lo hi:Option Src)
 |slA (k:Nat) (x:Src) (lo hi:Option Src)
 |slX (k:Nat) (x hi mx:Src)
 |fa (off:Nat) (p:Src)
 |fld (off n:Nat) (ag:Bool) (x:Src)
 |ia (k:Nat) (x i:Src)
 |iaP (n k:Nat) (x i:Src)
 |ixS (x i:Src)
 |ixA (n k:Nat) (ag:Bool) (x i:Src)
 |ext (x:Src) (i:Nat)
 |len (x:Src)
 |lenS (x:Src)
 |app (k:Nat) (x y:Src)
 |call (f:Nat) (args:List Src) (sh:List (List Sh))
 |callv (f:Src) (args:List Src) (sh:List (List Sh))
 |callM (f:Nat) (args:List Src)
 |callvM (f:Src) (args:List Src)
 |ldI (n:Nat) (ag:Bool) (p:Src)
 |ldU (n:Nat) (ag:Bool) (p:Src)
 |callF (f:Nat) (r:Src) (args:List Src) (sh:List (List Sh))
 |appN (k:Nat) (y:Src)
 |bslI (k:Nat) (z:D) (n:Nat) (parts:List (Nat×Src))
 |yn (x:Src)
 |KQ (x:Src)
 |mkB
 |lkp (x k:Src)
 |WA (x:Src)
 |isNl (x:Src)
 deriving Inhabited
structure GI where
 i:bd
 g:Option (Nat×Bool)
 deriving Inhabited
inductive AC where
 |reg (draw:Bool) (ins:List GI) (cm:List (Nat×Nat))
 |seq (a b:AC)
 |cond (c:Src) (a b:AC)
 |block (id:Nat) (a:AC)
 |loop (a:AC)
 |exit (id:Nat)
 |ret
 |skip
 deriving Inhabited
structure Vo where
 s:Nat
 mem:Option (Nat×Bool)
 deriving Inhabited
structure aN where
 np:Nat
 ns:Nat
 res:List Vo
 rsh:List (List Sh)
 body:AC
 deriving Inhabited
@[go_sem] def D.cells:D->List D
 | .agg cs=>cs
 | .any=>[]
 | .tup _=>[]
 |d=>[d]
@[go_sem] def D.isBool:D->Bool
 | .bool _=>true
 |_=>false
@[go_sem] def D.isAgg:D->Bool
 | .agg _=>true
 |_=>false
mutual
@[go_sem] def D.bN:D->Bool
 | .agg cs=>bK cs
 | .tup cs=>bK cs
 | .fn _ cs=>bK cs
 | .ptr .. =>false
 | .own .. =>false
 | .it _=>false
 |_=>true
@[go_sem] def bK:List D->Bool
 |[]=>true
 |d::r=>d.bN&&bK r
end
mutual
@[go_sem] def D.gH:D->Bool
 | .agg cs=>qA cs
 | .tup cs=>qA cs
 | .fn n cs=>!(Nat.ble 2000000 n)&&qA cs
 | .ptr .. =>false
 | .own .. =>false
 | .it _=>false
 | .sl .. =>false
 | .ref .. =>false
 |_=>true
@[go_sem] def qA:List D->Bool
 |[]=>true
 |d::r=>d.gH&&qA r
end
inductive cr where
 |buf (k:Nat) (es:List D)
 |iter (s:List UInt8) (pos:Nat)
 |row (s:List UInt8)
 |bld (o:Option Nat) (n:Nat) (u:Bool)
 deriving Inhabited
structure St where
 nx:Nat
 m:List (Nat×cr)
@[go_sem] def look:List (Nat×cr)->Nat->Option cr
 |[],_=>none
 |(a,b)::r,l=>if a=l then some b else look r l
@[go_sem] def ep:List (Nat×cr)->Nat->cr->List (Nat×cr)
 |[],l,b=>[(l,b)]
 |(a,x)::r,l,b=>if a=l then(a,b)::r else(a,x)::ep r l b
@[go_sem] def cM:List (Nat×cr)->Nat->List (Nat×cr)
 |[],_=>[]
 |(a,x)::r,l=>if a=l then cM r l else(a,x)::cM r l
structure cA where
 ok:Bool
 d:D
@[go_sem] def cA.un:cA:=⟨true,.any⟩
@[go_sem] def Src.ev (env vs:List cA):Src->cA
 | .s n=>env.getD n .un
 | .l p=>vs.getD p .un
 | .c d=>⟨true,d⟩
structure Ctx where
 pre:Nat->List D->Prop
 val:Nat->List D->D
 tr:Nat->List D->St->(D->St->Prop)->Prop
 fp:Nat->D->List D->Prop
 fv:Nat->D->List D->D
 fs:Nat->D->List D->D
 lo:Nat
@[go_sem] def bG (m:List (Nat×cr))(l:Nat):List D:=match look m l with
 |some (.buf _ es)=>es
 |_=>[]
@[go_sem] def gX (m:List (Nat×cr))(l k n:Nat):Prop:=match look m l with
 |some (.buf k' es)=>k=k'/\n<=es.length
 |_=>False
@[go_sem] def tH (m:List (Nat×cr)):D->List D
 | .sl _ es=>es
 | .own l _ i n=>((bG m l).drop i).take n
 | .str s=>s.map fun b=>.int .u8 b.toNat
 |_=>[]
@[go_sem] def Jo (m:List (Nat×cr))(k:Nat):D->Prop
 | .sl k' _=>k'=k
 | .own l k' i n=>k'=k/\gX m l k (i+n)
 | .str _=>k=1
 | .bg=>True
 |_=>False
mutual
@[go_sem] def sf (m:List (Nat×cr)):Sh->D->D
 | .a,d=>match d with
  | .bg=>.sl 0 []
  |d=>d
 | .sl k cs,d=>match d with
  | .bg=>.sl k []
  | .own l k' i c=>.sl k' ((((bG m l).drop i).take c).map (lX m cs))
  |d=>d
 | .pt cs,d=>match d with
  | .ptr l k i o=>.ref k ((bG m l).map (lX m cs)) i o
  |d=>d
@[go_sem] def lX (m:List (Nat×cr)):List Sh->D->D
 |[],d=>d
 |s::r,d=>match d with
  | .agg cs=>.agg (sg m (s::r) cs)
  |d=>sf m s d
@[go_sem] def sg (m:List (Nat×cr)):List Sh->List D->List D
 |[],ds=>ds
 |s::r,ds=>match ds with
  |[]=>[]
  |d::ds=>sf m s d::sg m r ds
end
mutual
@[go_sem] def oV (m:List (Nat×cr)):Sh->D->Prop
 | .a,d=>d.bN=true
 | .sl _ cs,d=>match d with
  | .own l k' i c=>gX m l k' (i+c)/\∀e∈((bG m l).drop i).take c,kf m cs e
  |d=>d.bN=true
 | .pt cs,d=>match d with
  | .ptr l k _ _=>gX m l k 0/\∀e∈bG m l,kf m cs e
  |d=>d.bN=true
@[go_sem] def kf (m:List (Nat×cr)):List Sh->D->Prop
 |[],d=>d.bN=true
 |s::r,d=>match d with
  | .agg cs=>pI m (s::r) cs
  |d=>oV m s d
@[go_sem] def pI (m:List (Nat×cr)):List Sh->List D->Prop
 |[],ds=>bK ds=true
 |s::r,ds=>match ds with
  |[]=>True
  |d::ds=>oV m s d/\pI m r ds
end
@[go_sem] def nj (op:BinOp):D->D->D
 | .int k a,.int _ b=>match op with
  | .add=>.int k (k.wrap (a+b))
  | .sub=>.int k (k.wrap (a-b))
  | .mul=>.int k (k.wrap (a*b))
  | .quo=>.int k (k.wrap (a.tdiv b))
  | .rem=>.int k (a.tmod b)
  | .eql=>.bool (a==b)| .neq=>.bool (a !=b)| .lss=>.bool (decide (a<b))| .leq=>.bool (decide (a<=b))| .gtr=>.bool (decide (b<a))| .geq=>.bool (decide (b<=a))
  | .shl=>.int k (k.wrap (a*2^(min b.toNat k.bits)))
  | .shr=>.int k (a.fdiv (2^(min b.toNat k.bits)))
  | .and=>.int k (k.wrap (((BitVec.ofInt k.bits a)&&&(BitVec.ofInt k.bits b)).toNat))
  | .or=>.int k (k.wrap (((BitVec.ofInt k.bits a) |||(BitVec.ofInt k.bits b)).toNat))
  | .xor=>.int k (k.wrap (((BitVec.ofInt k.bits a)^^^(BitVec.ofInt k.bits b)).toNat))
  | .andNot=>.int k (k.wrap (((BitVec.ofInt k.bits a)&&& ~~~(BitVec.ofInt k.bits b)).toNat))
 | .str a,.str b=>match op with
  | .add=>.str (a++b)
  | .eql=>.bool (a==b)| .neq=>.bool (!(a==b))| .lss=>.bool (Op.bytesLess a b)| .geq=>.bool (!(Op.bytesLess a b))
  | .leq=>.bool (Op.bytesLess a b ||a==b)| .gtr=>.bool (!(Op.bytesLess a b ||a==b))
  |_=>.any
 |_,_=>.any
@[go_sem] def l8 (op:BinOp):D->D->Prop
 | .int k a,.int k' b=>match op with
  | .quo=>k=k'/\b≠0
  | .rem=>k=k'/\b≠0
  | .shl=>0<=b
  | .shr=>0<=b
  |_=>k=k'
 | .str a,.str b=>match op with
  | .add=>a.length+b.length<=9223372036854775807
  | .eql=>True| .neq=>True| .lss=>True| .geq=>True| .leq=>True| .gtr=>True
  |_=>False
 |_,_=>False
@[go_sem] def D.pick (b:Bool):D->D->D
 | .bool x,.bool y=>.bool (bif b then x else y)
 |x,y=>bif b then x else y
@[go_sem] def cut (cs:List D)(o n:Nat)(ag:Bool):D:=bif ag then .agg ((cs.drop o).take n)else cs.getD o .any
@[go_sem] def qS (e:D)(k n o:Nat)(ag:Bool):D:=bif (n==k)&&(e.isAgg==ag)then e else cut e.cells o n ag
@[go_sem] def G6 (m:List (Nat×cr))(n:Nat)(ag:Bool):D->D
 | .ptr l k i o=>qS ((bG m l).getD i .any) k n o ag
 | .ref k es i o=>qS (es.getD i .any) k n o ag
 | .fn _ es=>qS (es.getD 0 .any) 1 n 0 ag
 |_=>.any
@[go_sem] def KP (m:List (Nat×cr))(n:Nat):D->Prop
 | .ptr l k i o=>gX m l k (i+1)/\o+n<=k
 | .ref k es i o=>i<es.length/\o+n<=k
 | .fn q es=>q=3000000/\n=1/\es.length=1/\(es.getD 0 .any).cells=[es.getD 0 .any]
 |_=>False
mutual
@[go_sem] def eqD:D->D->Bool
 | .bool a,.bool b=>a==b
 | .int _ a,.int _ b=>a==b
 | .str a,.str b=>a==b
 |_,_=>false
@[go_sem] def jm:List D->List D->Bool
 |[],[]=>true
 |a::r,b::s=>eqD a b&&jm r s
 |_,_=>false
end
@[go_sem] def CK.fits:CK->D->Prop
 | .b,.bool _=>True
 | .i k,.int k' _=>k'=k
 | .s,.str _=>True
 |_,_=>False
@[go_sem] def ix:List CK->List D->Prop
 |[],[]=>True
 |c::r,d::s=>c.fits d/\ix r s
 |_,_=>False
@[go_sem] def over (cs:List D)(o:Nat)(new:List D):List D:=cs.take o++(new++cs.drop (o+new.length))
@[go_sem] def Bz (e:D)(k n o:Nat)(v:D):D:=bif (n==k)&&(v.isAgg ||!e.isAgg)then v else .agg (over e.cells o v.cells)
@[go_sem] def EV (J:Src->cA)(cs:List D):List (Nat×Nat×Src)->List D
 |[]=>cs
 |(o,_,s)::r=>EV J (over cs o (J s).d.cells) r
@[go_sem] def HE (J:Src->cA)(len:Nat):List (Nat×Nat×Src)->Prop
 |[]=>True
 |(o,n,s)::r=>(J s).ok=true/\(J s).d.cells.length=n/\o+n<=len/\HE J len r
@[go_sem] def pF (J:Src->cA)(es:List D):List (Nat×Src)->List D
 |[]=>es
 |(i,s)::r=>pF J (es.set i (J s).d) r
@[go_sem] def xI (J:Src->cA)(k n:Nat):List (Nat×Src)->Prop
 |[]=>True
 |(i,s)::r=>i<n/\(J s).ok=true/\(J s).d.cells.length=k/\xI J k n r
@[go_sem] def D.nat:D->Nat
 | .int _ n=>n.toNat
 |_=>0
@[go_sem] def fV (o:Option D)(dflt:Nat):Nat:=match o with
 |some (.int _ n)=>n.toNat
 |_=>dflt
@[go_sem] def sP (o:Option D)(hi:Nat):Prop:=match o with
 |none=>True
 |some (.int _ n)=>0<=n/\n<=hi
 |_=>False
@[go_sem] def XP (J:Src->cA):Option Src->Prop
 |none=>True
 |some s=>(J s).ok=true
@[go_sem] def dO (J:Src->cA):Option Src->Option D
 |none=>none
 |some s=>some (J s).d
@[go_sem] def Bj (J:Src->cA):List Src->Prop
 |[]=>True
 |s::r=>(J s).ok=true/\Bj J r
@[go_sem] def j7 (J:Src->cA):List Src->List D
 |[]=>[]
 |s::r=>(J s).d::j7 J r
@[go_sem] def D.u8:D->UInt8
 | .int _ n=>UInt8.ofNat n.toNat
 |_=>0
@[go_sem] def D.WB:D->Prop
 | .int k n=>k=.u8/\0<=n/\n<256
 |_=>False
def AK (s:List UInt8)(pos:Nat):Nat×Nat:=Utf8.decode ⟨⟨s⟩⟩ pos
def abI (n:Int):List UInt8:=(Utf8.encode n).data.toList
@[go_sem] def jZ (m:List (Nat×cr)):List (List Sh)->List D->List D
 |_,[]=>[]
 |[],d::r=>lX m [.a] d::jZ m [] r
 |s::ss,d::r=>lX m s d::jZ m ss r
@[go_sem] def lO (m:List (Nat×cr)):List (List Sh)->List D->Prop
 |_,[]=>True
 |[],d::r=>kf m [.a] d/\lO m [] r
 |s::ss,d::r=>kf m s d/\lO m ss r
@[go_sem] def G8 (s:List UInt8):List D->D
 | .str a::f::r=>bif a==s then f else G8 s r
 |_=>.nilf
@[go_sem] def mpOK:List D->Prop
 |[]=>True
 | .str _::_::r=>mpOK r
 |_=>False
@[go_sem] def bd.val (Y:Ctx)(J:Src->cA)(m:List (Nat×cr))(L:Nat):bd->D
 | .mv x=>(J x).d
 | .pick c a b=>match(J c).d with| .bool t=>D.pick t (J a).d (J b).d|_=>.any
 | .box k _=>.ptr L k 0 0
 | .build z ps=>.agg (EV J z ps)
 | .bsl k _ n _=>.own L k 0 n
 | .ld n ag p=>G6 m n ag (J p).d
 | .st _ _ _=>.any
 | .nilck x=>(J x).d
 | .bin op x y=>nj op (J x).d (J y).d
 | .eqA neg _ _ x y=>.bool (bif neg then !(jm (J x).d.cells (J y).d.cells)else jm (J x).d.cells (J y).d.cells)
 | .un op x=>match op,(J x).d with
  | .not,.bool b=>.bool (!b)
  | .neg,.int k n=>.int k (k.wrap (0-n))
  |_,_=>.any
 | .cvi k x=>match(J x).d with| .int _ n=>.int k (k.wrap n)|_=>.any
 | .mn x y=>match(J x).d,(J y).d with| .int k a,.int _ b=>.int k (if b<a then b else a)|_,_=>.any
 | .s2b x=>match(J x).d with| .str s=>.own L 1 0 s.length|_=>.any
 | .b2s x=>.str ((tH m (J x).d).map D.u8)
 | .i2s x=>match(J x).d with| .int _ n=>.str (abI n)|_=>.any
 | .mkf f caps=>.fn f (j7 J caps)
 | .mks k _ ln _=>.own L k 0 (J ln).d.nat
 | .slS x lo hi=>match(J x).d with
  | .str s=>.str ((s.take (fV (dO J hi) s.length)).drop (fV (dO J lo) 0))
  |_=>.any
 | .slA _ x lo hi=>match(J x).d with
  | .sl k es=>.sl k ((es.take (fV (dO J hi) es.length)).drop (fV (dO J lo) 0))
  | .own l k i n=>.own l k (i+fV (dO J lo) 0) (fV (dO J hi) n-fV (dO J lo) 0)
  | .bg=>.bg
  |_=>.any
 | .slX _ x hi _=>match(J x).d,(J hi).d with
  | .sl k es,.int _ h=>.sl k (es.take h.toNat)
  | .own l k i _,.int _ h=>.own l k i h.toNat
  | .bg,_=>.bg
  |_,_=>.any
 | .fa off p=>match(J p).d with
  | .ptr l k i o=>.ptr l k i (o+off)
  | .ref k es i o=>.ref k es i (o+off)
  |_=>.any
 | .fld off n ag x=>cut (J x).d.cells off n ag
 | .ia _ x i=>match(J x).d,(J i).d with
  | .sl k es,.int _ n=>.ref k es n.toNat 0
  | .own l k j _,.int _ n=>.ptr l k (j+n.toNat) 0
  |_,_=>.any
 | .iaP _ k x i=>match(J x).d,(J i).d with
  | .ptr l k' j o,.int _ n=>.ptr l k' j (o+n.toNat*k)
  | .ref k' es j o,.int _ n=>.ref k' es j (o+n.toNat*k)
  |_,_=>.any
 | .ixS x i=>match(J x).d,(J i).d with
  | .str s,.int _ n=>.int .u8 (s.getD n.toNat 0).toNat
  |_,_=>.any
 | .ixA _ k ag x i=>match(J i).d with
  | .int _ n=>cut (J x).d.cells (n.toNat*k) k ag
  |_=>.any
 | .ext x i=>match(J x).d with| .tup ds=>ds.getD i .any|_=>.any
 | .len x=>match(J x).d with
  | .sl _ es=>.int .i64 es.length
  | .own _ _ _ n=>.int .i64 n
  | .bg=>.int .i64 0
  |_=>.any
 | .lenS x=>match(J x).d with
  | .str s=>.int .i64 s.length
  |_=>.any
 | .app k x y=>match(J x).d with
  | .own _ _ _ n=>.own L k 0 (n+(tH m (J y).d).length)
  |_=>.own L k 0 (tH m (J y).d).length
 | .call f args sh=>Y.val f (jZ m sh (j7 J args))
 | .callv f args sh=>match(J f).d with
  | .fn n caps=>Y.val n (jZ m sh (j7 J args++caps))
  |_=>.any
 | .callM _ _=>.any
 | .callvM _ _=>.any
 | .ldU n ag p=>G6 m n ag (J p).d
 | .ldI n ag p=>match(J p).d with
  | .ref k es i o=>qS (es.getD i .any) k n o ag
  | .fn _ es=>qS (es.getD 0 .any) 1 n 0 ag
  |_=>.any
 | .appN k y=>.own L k 0 (tH m (J y).d).length
 | .bslI k z n ps=>.sl k (pF J (List.replicate n z) ps)
 | .callF f r args sh=>match(J r).d with
  | .ptr l _ _ _=>Y.fv f ((bG m l).getD 0 .any) (jZ [] sh (j7 J args))
  |_=>.any
 | .yn _=>.it L
 | .mkB=>.ptr L 2 0 0
 | .lkp x k=>match(J x).d,(J k).d with| .fn _ es,.str s=>G8 s es|_,_=>.any
 | .WA x=>match(J x).d with| .nilf=>.bool true|_=>.bool false
 | .isNl _=>.any
 | .KQ x=>match(J x).d with
  | .it l=>match look m l with
   |some (.iter s pos)=>bif decide (pos<s.length)then .tup [.bool true,.int .i64 pos,.int .i32 (AK s pos).1]else .tup [.bool false]
   |_=>.any
  |_=>.any
@[go_sem] def xz (args:List D)(r:D):Bool:=bK args ||r.gH
@[go_sem] def bd.ff (Y:Ctx)(J:Src->cA)(m:List (Nat×cr)):bd->Prop
 | .mv x=>(J x).ok=true
 | .pick c a b=>(J c).ok=true/\match(J c).d with
  | .bool t=>(t=true->(J a).ok=true)/\(t=false->(J b).ok=true)
  |_=>False
 | .box k x=>(J x).ok=true/\(J x).d.cells.length=k
 | .build z ps=>HE J z.length ps
 | .bsl k z n ps=>z.cells.length=k/\xI J k n ps
 | .ld n _ p=>(J p).ok=true/\KP m n (J p).d
 | .st n p v=>(J p).ok=true/\(J v).ok=true/\(J v).d.cells.length=n/\match(J p).d with
  | .ptr l k i o=>gX m l k (i+1)/\o+n<=k
  |_=>False
 | .nilck x=>(J x).ok=true/\match(J x).d with| .ptr .. =>True| .ref .. =>True|_=>False
 | .bin op x y=>(J x).ok=true/\(J y).ok=true/\l8 op (J x).d (J y).d
 | .eqA _ ag ks x y=>(J x).ok=true/\(J y).ok=true/\(J x).d.isAgg=ag/\(J y).d.isAgg=ag/\ix ks (J x).d.cells/\ix ks (J y).d.cells
 | .un op x=>(J x).ok=true/\match op,(J x).d with
  | .not,.bool _=>True
  | .neg,.int _ _=>True
  |_,_=>False
 | .cvi _ x=>(J x).ok=true/\match(J x).d with| .int _ _=>True|_=>False
 | .mn x y=>(J x).ok=true/\(J y).ok=true/\match(J x).d,(J y).d with| .int _ _,.int _ _=>True|_,_=>False
 | .s2b x=>(J x).ok=true/\match(J x).d with| .str _=>True|_=>False
 | .b2s x=>(J x).ok=true/\(match(J x).d with| .str _=>False|_=>True)/\Jo m 1 (J x).d/\∀e∈tH m (J x).d,e.WB
 | .i2s x=>(J x).ok=true/\match(J x).d with| .int _ _=>True|_=>False
 | .mkf _ caps=>Bj J caps
 | .mks k z ln cp=>(J ln).ok=true/\(J cp).ok=true/\z.cells.length=k/\match(J ln).d,(J cp).d with
  | .int _ n,.int _ c=>0<=n/\n<=c/\c<=1073741824
  |_,_=>False
 | .slS x lo hi=>(J x).ok=true/\XP J lo/\XP J hi/\match(J x).d with
  | .str s=>sP (dO J hi) s.length/\sP (dO J lo) (fV (dO J hi) s.length)
  |_=>False
 | .slA k x lo hi=>(J x).ok=true/\XP J lo/\XP J hi/\match(J x).d with
  | .sl k' es=>k'=k/\sP (dO J hi) es.length/\sP (dO J lo) (fV (dO J hi) es.length)
  | .own _ k' _ n=>k'=k/\sP (dO J hi) n/\sP (dO J lo) (fV (dO J hi) n)
  | .bg=>sP (dO J hi) 0/\sP (dO J lo) 0
  |_=>False
 | .slX k x hi mx=>(J x).ok=true/\(J hi).ok=true/\(J mx).ok=true/\match(J hi).d,(J mx).d with
  | .int _ h,.int _ m=>0<=h/\h<=m/\(match(J x).d with
    | .sl k' es=>k'=k/\m<=es.length
    | .own _ k' _ n=>k'=k/\m<=n
    | .bg=>m=0
    |_=>False)
  |_,_=>False
 | .fa off p=>(J p).ok=true/\match(J p).d with| .ptr .. =>True| .ref .. =>True|_=>False
 | .fld off n ag x=>(J x).ok=true/\match(J x).d with| .agg cs=>off+n<=cs.length/\(ag=false->n=1)|_=>False
 | .ia k x i=>(J x).ok=true/\(J i).ok=true/\match(J x).d,(J i).d with
  | .sl k' es,.int _ n=>k'=k/\0<=n/\n<es.length
  | .own _ k' _ c,.int _ n=>k'=k/\0<=n/\n<c
  |_,_=>False
 | .iaP n k x i=>(J x).ok=true/\(J i).ok=true/\match(J x).d,(J i).d with
  | .ptr ..,.int _ c=>0<=c/\c<n
  | .ref ..,.int _ c=>0<=c/\c<n
  |_,_=>False
 | .ixS x i=>(J x).ok=true/\(J i).ok=true/\match(J x).d,(J i).d with
  | .str s,.int _ n=>0<=n/\n<s.length
  |_,_=>False
 | .ixA n k ag x i=>(J x).ok=true/\(J i).ok=true/\(ag=false->k=1)/\match(J x).d,(J i).d with
  | .agg cs,.int _ c=>0<=c/\c<n/\cs.length=n*k
  |_,_=>False
 | .ext x i=>(J x).ok=true/\match(J x).d with| .tup ds=>i<ds.length|_=>False
 | .len x=>(J x).ok=true/\match(J x).d with| .sl _ _=>True| .own .. =>True| .bg=>True|_=>False
 | .lenS x=>(J x).ok=true/\match(J x).d with| .str _=>True|_=>False
 | .app k x y=>(J x).ok=true/\(J y).ok=true/\Jo m k (J y).d/\match(J x).d with
  | .own l k' i n=>k'=k/\gX m l k (i+n)/\n+(tH m (J y).d).length<=1073741824
  | .bg=>(tH m (J y).d).length<=1073741824
  |_=>False
 | .call f args sh=>Bj J args/\lO m sh (j7 J args)/\Y.pre f (jZ m sh (j7 J args))/\xz (j7 J args) (Y.val f (jZ m sh (j7 J args)))=true
 | .callv f args sh=>(J f).ok=true/\Bj J args/\match(J f).d with
  | .fn n caps=>n<1000000/\lO m sh (j7 J args++caps)/\Y.pre n (jZ m sh (j7 J args++caps))/\xz (j7 J args++caps) (Y.val n (jZ m sh (j7 J args++caps)))=true
  |_=>False
 | .callM _ args=>Bj J args
 | .callvM _ args=>Bj J args
 | .ldU n _ p=>(J p).ok=true/\match(J p).d with
  | .ptr l k i o=>(gX m l k (i+1)/\o+n<=k)/\bK (bG m l)=false
  | .ref k es i o=>i<es.length/\o+n<=k
  |_=>False
 | .ldI n _ p=>(J p).ok=true/\match(J p).d with
  | .ref k es i o=>i<es.length/\o+n<=k
  | .fn q es=>q=3000000/\n=1/\es.length=1/\(es.getD 0 .any).cells=[es.getD 0 .any]
  |_=>False
 | .appN k y=>(J y).ok=true/\Jo m k (J y).d/\(tH m (J y).d).length<=1073741824
 | .bslI k z n ps=>z.cells.length=k/\xI J k n ps/\bK (pF J (List.replicate n z) ps)=true
 | .callF f r args sh=>(J r).ok=true/\Bj J args/\bK (j7 J args)=true/\match(J r).d with
  | .ptr l k i o=>i=0/\o=0/\gX m l k 1/\(bG m l).length=1/\((bG m l).getD 0 .any).bN=true/\Y.fp f ((bG m l).getD 0 .any) (jZ [] sh (j7 J args))
  |_=>False
 | .yn x=>(J x).ok=true/\match(J x).d with| .str _=>True|_=>False
 | .mkB=>True
 | .lkp x k=>(J x).ok=true/\(J k).ok=true/\match(J x).d,(J k).d with
  | .fn n es,.str _=>n=2000000/\mpOK es
  |_,_=>False
 | .isNl _=>True
 | .WA x=>(J x).ok=true/\match(J x).d with| .nilf=>True| .fn n _=>n<2000000|_=>False
 | .KQ x=>(J x).ok=true/\match(J x).d with
  | .it l=>match look m l with
   |some (.iter _ _)=>True
   |_=>False
  |_=>False
@[go_sem] def Src.isS:Src->Bool
 | .s _=>true
 |_=>false
@[go_sem] def bd.KN (draw:Bool)(J:Src->cA):bd->Prop
 | .len x=>bif draw&& !x.isS then True else(J x).ok=true->match(J x).d with
  | .sl _ es=>es.length<=9223372036854775807
  | .own _ _ _ n=>n<=9223372036854775807
  |_=>True
 | .lenS x=>bif draw&& !x.isS then True else(J x).ok=true->match(J x).d with
  | .str s=>s.length<=9223372036854775807
  |_=>True
 |_=>True
@[go_sem] def bd.dr (Y:Ctx)(J:Src->cA)(m:List (Nat×cr))(L:Nat):bd->List (Nat×cr)
 | .box k x=>ep m L (.buf k [(J x).d])
 | .bsl k z n ps=>ep m L (.buf k (pF J (List.replicate n z) ps))
 | .mks k z ln _=>ep m L (.buf k (List.replicate (J ln).d.nat z))
 | .s2b x=>match(J x).d with
  | .str s=>ep m L (.buf 1 (s.map fun b=>.int .u8 b.toNat))
  |_=>m
 | .st n p v=>match(J p).d with
  | .ptr l k i o=>ep m l (.buf k ((bG m l).set i (Bz ((bG m l).getD i .any) k n o (J v).d)))
  |_=>m
 | .app k x y=>match(J x).d with
  | .own l k' i n=>ep (cM m l) L (.buf k ((((bG m l).drop i).take n)++tH m (J y).d))
  |_=>ep m L (.buf k (tH m (J y).d))
 | .appN k y=>ep m L (.buf k (tH m (J y).d))
 | .callF f r args sh=>match(J r).d with
  | .ptr l k _ _=>ep m l (.buf k [Y.fs f ((bG m l).getD 0 .any) (jZ [] sh (j7 J args))])
  |_=>m
 | .yn x=>match(J x).d with
  | .str s=>ep m L (.iter s 0)
  |_=>m
 | .mkB=>ep m L (.bld none 0 false)
 | .KQ x=>match(J x).d with
  | .it l=>match look m l with
   |some (.iter s pos)=>bif decide (pos<s.length)then ep m l (.iter s (pos+(AK s pos).2))else m
   |_=>m
  |_=>m
 |_=>m
@[go_sem] def dK:D->List Nat
 | .ptr l _ _ _=>[l]
 | .own l _ _ _=>[l]
 | .it l=>[l]
 |_=>[]
@[go_sem] def bd.pS (J:Src->cA):bd->Option (List Nat)
 | .ld _ _ p=>some (dK (J p).d)
 | .ldU _ _ p=>some (dK (J p).d)
 | .st _ p _=>some (dK (J p).d)
 | .b2s x=>some (dK (J x).d)
 | .app _ x y=>some (dK (J x).d++dK (J y).d)
 | .KQ x=>some (dK (J x).d)
 | .call _ args _=>bif bK (j7 J args)then some []else none
 | .callv f args _=>match(J f).d with
  | .fn _ caps=>bif bK (j7 J args++caps)then some []else none
  |_=>none
 | .callM _ _=>none
 | .callvM _ _=>none
 | .isNl _=>none
 | .callF _ r _ _=>some (dK (J r).d)
 | .appN _ y=>some (dK (J y).d)
 |_=>some []
@[go_sem] def bd.wr (J:Src->cA)(L:Nat):bd->List Nat
 | .box .. =>[L]
 | .bsl .. =>[L]
 | .mks .. =>[L]
 | .s2b _=>[L]
 | .yn _=>[L]
 | .mkB=>[L]
 | .st _ p _=>dK (J p).d
 | .app _ x _=>L::dK (J x).d
 | .KQ x=>dK (J x).d
 | .callF _ r _ _=>dK (J r).d
 | .appN .. =>[L]
 |_=>[]
@[go_sem] def bd.calm:bd->Bool
 | .st .. =>false
 | .app .. =>false
 | .KQ .. =>false
 | .callM .. =>false
 | .callvM .. =>false
 | .isNl _=>false
 | .callF .. =>false
 |_=>true
@[go_sem] def flag (vs:List cA):Option (Nat×Bool)->Bool
 |none=>true
 |some (j,w)=>(vs.getD j .un).ok&&match(vs.getD j .un).d with
  | .bool b=>b==w
  |_=>false
@[go_sem] def gok (vs:List cA)(i:bd):Option (Nat×Bool)->Prop
 |none=>True
 |some (j,_)=>i.calm=true/\((vs.getD j .un).ok=true->(vs.getD j .un).d.isBool=true)
@[go_sem] def bd.uv (draw:Bool)(g:Option (Nat×Bool))(i:bd):Bool:=!draw&&(!i.calm&&g.isSome)
@[go_sem] def ze (vs:List cA):Option (Nat×Bool)->Prop
 |none=>True
 |some (j,_)=>(vs.getD j .un).ok=true->(vs.getD j .un).d.isBool=true
@[go_sem] def nlB (d:D)(b:Bool):Prop:=match d with
 | .bg=>b=true
 | .sl _ es=>b=true->es=[]
 | .own _ _ _ n=>b=true->n=0
 |_=>True
@[go_sem] def slB:D->Prop
 | .bg=>True
 | .sl .. =>True
 | .own .. =>True
 |_=>False
@[go_sem] def G0 (n:Nat):Nat:=if n<1000000 then n else n-1000000
@[go_sem] def EH (n:Nat)(am7 caps:List D):List D:=if n<1000000 then am7++caps else caps++am7
def iD (Y:Ctx)(draw:Bool):List GI->(env vs:List cA)->St->(List cA->St->Prop)->Prop
 |[],_,vs,st,K=>K vs {st with nx:=st.nx+vs.length}
 |⟨.callM f args,g⟩::r,env,vs,st,K=>
  ze vs g/\(flag vs g=true->Bj (Src.ev env vs) args/\
   Y.tr f (j7 (Src.ev env vs) args) {st with nx:=st.nx+vs.length} fun d st'=>st.nx+vs.length<=st'.nx/\iD Y draw r env (vs++[⟨true,d⟩]) {st' with nx:=st'.nx-vs.length} K)/\
   (flag vs g=false->iD Y draw r env (vs++[⟨false,.any⟩]) st K)
 |⟨.callvM f args,g⟩::r,env,vs,st,K=>
  ze vs g/\(flag vs g=true->(Src.ev env vs f).ok=true/\Bj (Src.ev env vs) args/\match(Src.ev env vs f).d with
   | .fn n caps=>n<2000000/\Y.tr (G0 n) (EH n (j7 (Src.ev env vs) args) caps) {st with nx:=st.nx+vs.length} fun d st'=>st.nx+vs.length<=st'.nx/\iD Y draw r env (vs++[⟨true,d⟩]) {st' with nx:=st'.nx-vs.length} K
   |_=>False)/\
   (flag vs g=false->iD Y draw r env (vs++[⟨false,.any⟩]) st K)
 |⟨.isNl x,g⟩::r,env,vs,st,K=>g=none/\(Src.ev env vs x).ok=true/\slB (Src.ev env vs x).d/\∀b,nlB (Src.ev env vs x).d b->iD Y draw r env (vs++[⟨true,.bool b⟩]) st K
 |⟨i,g⟩::r,env,vs,st,K=>
  if i.uv draw g=true then
   ze vs g/\(flag vs g=true->i.ff Y (Src.ev env vs) st.m/\
     iD Y draw r env (vs++[⟨true,i.val Y (Src.ev env vs) st.m (st.nx+vs.length)⟩]) {st with m:=i.dr Y (Src.ev env vs) st.m (st.nx+vs.length)} K)/\
    (flag vs g=false->iD Y draw r env (vs++[⟨false,.any⟩]) st K)
  else
  gok vs i g/\(flag vs g=true->i.ff Y (Src.ev env vs) st.m)/\
   ((flag vs g=true->i.KN draw (Src.ev env vs))->∃d,(flag vs g=true->i.val Y (Src.ev env vs) st.m (st.nx+vs.length)=d)/\
     iD Y draw r env (vs++[⟨flag vs g,d⟩]) {st with m:=i.dr Y (Src.ev env vs) st.m (st.nx+vs.length)} K)
mutual
@[go_sem] def ig (l k:Nat)(es:List D):D->D
 | .own l' k' i n=>if l'=l/\k'=k/\i+n<=es.length then .sl k ((es.drop i).take n)else .own l' k' i n
 | .ptr l' k' i o=>if l'=l/\k'=k then .ref k es i o else .ptr l' k' i o
 | .agg cs=>.agg (ij l k es cs)
 | .tup cs=>.tup (ij l k es cs)
 | .fn f cs=>.fn f (ij l k es cs)
 | .any=>.any
 | .bool b=>.bool b
 | .int k n=>.int k n
 | .str s=>.str s
 | .bg=>.bg
 | .sl k es=>.sl k es
 | .ref k es i o=>.ref k es i o
 | .nilp=>.nilp
 | .nilf=>.nilf
 | .it l=>.it l
@[go_sem] def ij (l k:Nat)(es:List D):List D->List D
 |[]=>[]
 |d::r=>ig l k es d::ij l k es r
end
@[go_sem] def kW (l k:Nat)(es:List D):cr->cr
 | .buf k' es'=>.buf k' (ij l k es es')
 |b=>b
@[go_sem] def ku (l k:Nat)(es:List D):List (Nat×cr)->List (Nat×cr)
 |[]=>[]
 |(a,b)::r=>(a,kW l k es b)::ku l k es r
@[go_sem] def j8 (l k:Nat)(es:List D):List cA->List cA
 |[]=>[]
 |⟨ok,d⟩::r=>⟨ok,ig l k es d⟩::j8 l k es r
@[go_sem] def XO (l:Nat)(s:List cA×List (Nat×cr)):List cA×List (Nat×cr):=match look s.2 l with
 |some (.buf k es)=>bif bK es then(j8 l k es s.1,ku l k es (cM s.2 l))else s
 |_=>s
@[go_sem] def frzs:List Nat->List cA×List (Nat×cr)->List cA×List (Nat×cr)
 |[],s=>s
 |l::r,s=>frzs r (XO l s)
inductive Ex where
 |normal|exit (id:Nat)|ret
@[go_sem] def jL (env vs:List cA):List (Nat×Nat)->List cA
 |[]=>env
 |(s,p)::r=>jL (env.set s (vs.getD p .un)) vs r
@[go_sem] def mX (lo:Nat)(σ:List (Nat×Nat))(l:Nat):Option Nat:=match σ with
 |[]=>bif Nat.blt l lo then some l else none
 |(a,b)::r=>bif Nat.beq a l then some b else mX lo r l
@[go_sem] def M3 (lo:Nat)(σ:List (Nat×Nat))(l:Nat)(f:Nat->D):Option D:=match mX lo σ l with
 |some l'=>some (f l')
 |none=>none
mutual
@[go_sem] def wz (lo:Nat)(σ:List (Nat×Nat)):D->Option D
 | .own l k i n=>M3 lo σ l fun l=>.own l k i n
 | .ptr l k i o=>M3 lo σ l fun l=>.ptr l k i o
 | .it l=>M3 lo σ l fun l=>.it l
 | .agg cs=>match sn lo σ cs with
  |some cs=>some (.agg cs)
  |none=>none
 | .tup cs=>match sn lo σ cs with
  |some cs=>some (.tup cs)
  |none=>none
 | .fn f cs=>match sn lo σ cs with
  |some cs=>some (.fn f cs)
  |none=>none
 | .any=>some .any
 | .bool b=>some (.bool b)
 | .int k n=>some (.int k n)
 | .str s=>some (.str s)
 | .bg=>some .bg
 | .sl k es=>some (.sl k es)
 | .ref k es i o=>some (.ref k es i o)
 | .nilp=>some .nilp
 | .nilf=>some .nilf
@[go_sem] def sn (lo:Nat)(σ:List (Nat×Nat)):List D->Option (List D)
 |[]=>some []
 |d::r=>match wz lo σ d,sn lo σ r with
  |some d,some r=>some (d::r)
  |_,_=>none
end
mutual
def yB:D->D->Prop
 | .bg,d'=>d'=.bg\/∃l k i,d'=.own l k i 0
 | .agg a,d'=>∃b,d'=.agg b/\I5 a b
 |d,d'=>d'=d/\d.bN=true
def I5:List D->List D->Prop
 |[],b=>b=[]
 |d::r,b=>∃d' r',b=d'::r'/\yB d d'/\I5 r r'
end
def Zr (lo:Nat)(σ:List (Nat×Nat))(d d':D):Prop:=d'=d/\d.bN=true\/wz lo σ d=some d'\/yB d d'
def vP (lo:Nat)(σ:List (Nat×Nat)):cr->cr->Prop
 | .buf k es,.buf k' es'=>k'=k/\(es'=es/\bK es=true\/sn lo σ es=some es'\/I5 es es')
 | .iter s p,.iter s' p'=>s'=s/\p'=p
 | .row s,.row s'=>s'=s
 | .bld o n u,.bld o' n' u'=>(match o with
  |none=>o'=none
  |some l=>∃l',mX lo σ l=some l'/\o'=some l')/\n'=n/\u'=u
 |_,_=>False
def de (lo:Nat)(σ:List (Nat×Nat)):List cA->List cA->Prop
 |[],[]=>True
 |a::r,b::s=>(b.ok=a.ok/\Zr lo σ a.d b.d\/b=.un)/\de lo σ r s
 |_,_=>False
def bF (lo c:Nat)(σ:List (Nat×Nat))(m:List (Nat×cr)):List (Nat×cr)->Prop
 |[]=>True
 |(l',b')::r=>((∃l b,mX lo σ l=some l'/\look m l=some b/\vP lo σ b b')\/(Nat.ble lo l'=true/\Nat.blt l' c=true/\σ.all (fun p=>!Nat.beq p.2 l')=true/\∃k,b'=.buf k []))/\bF lo c σ m r
def jg (lo c:Nat):List (Nat×Nat)->Bool
 |[]=>Nat.ble lo c
 |(a,b)::r=>(Nat.ble lo b&&(Nat.blt b c&&(r.all (fun p=>!Nat.beq p.1 a&& !Nat.beq p.2 b)&&jg lo c r)))
@[go_sem] def leE:List cA->List cA->Prop
 |[],[]=>True
 |a::r,b::s=>(b=a\/b=.un)/\leE r s
 |_,_=>False
@[go_sem] def abL (m:List (Nat×cr)):List (Nat×cr)->Prop
 |[]=>True
 |(l,b)::r=>look m l=some b/\abL m r
inductive CH:D->D->Prop
 |refl (d:D):CH d d
 |nil (k:Nat):CH .bg (.sl k [])
 |agg (a b:List D) (hl:b.length=a.length) (h:∀i,CH (a.getD i .any) (b.getD i .any)):CH (.agg a) (.agg b)
 |sl (k:Nat) (a b:List D) (hl:b.length=a.length) (h:∀i,CH (a.getD i .any) (b.getD i .any)):CH (.sl k a) (.sl k b)
def NP (a b:List D):Prop:=b.length=a.length/\∀i,CH (a.getD i .any) (b.getD i .any)
def WkB:cr->cr->Prop
 | .buf k es,.buf k' es'=>k'=k/\NP es es'
 |b,b'=>b'=b
def WkE:List cA->List cA->Prop
 |[],[]=>True
 |a::r,b::s=>(b.ok=a.ok/\CH a.d b.d)/\WkE r s
 |_,_=>False
def VX (m:List (Nat×cr)):List (Nat×cr)->Prop
 |[]=>True
 |(l,b')::r=>(∃b,look m l=some b/\WkB b b')/\VX m r
inductive bm (lo:Nat):List cA->St->List cA->St->Prop
 |refl (env:List cA) (st:St):bm lo env st env st
 |XO (l:Nat) (env:List cA) (st:St):bm lo env st (XO l (env,st.m)).1 ⟨st.nx,(XO l (env,st.m)).2⟩
 |ren (σ:List (Nat×Nat)) (c:Nat) (env env':List cA) (nx:Nat) (m m':List (Nat×cr)) (h:jg lo c σ=true) (he:de lo σ env env') (hm:bF lo c σ m m'):bm lo env ⟨nx,m⟩ env' ⟨c,m'⟩
 |wk (env env':List cA) (nx:Nat) (m m':List (Nat×cr)) (he:leE env env') (hm:abL m m'):bm lo env ⟨nx,m⟩ env' ⟨nx,m'⟩
 |nz (env env':List cA) (nx:Nat) (m m':List (Nat×cr)) (he:WkE env env') (hm:VX m m'):bm lo env ⟨nx,m⟩ env' ⟨nx,m'⟩
 |trans (env1 env2 env3:List cA) (st1 st2 st3:St) (h:bm lo env1 st1 env2 st2) (h':bm lo env2 st2 env3 st3):bm lo env1 st1 env3 st3
def Gh (lo:Nat)(p:List cA->St->Prop)(env:List cA)(st:St):Prop:=∃env' st',bm lo env st env' st'/\p env' st'
def cg (Y:Ctx):AC->(Ex->List cA->St->Prop)->List cA->St->Prop
 | .reg draw ins cm,Q=>Gh Y.lo fun env st=>iD Y draw ins env [] st fun vs st'=>Q .normal (jL env vs cm) st'
 | .seq a b,Q=>Gh Y.lo (cg Y a (fun e env st=>match e with
   | .normal=>cg Y b Q env st
   |e=>Q e env st))
 | .cond c a b,Q=>Gh Y.lo fun env st=>(c.ev env []).ok=true/\match(c.ev env []).d with
  | .bool t=>(t=true->cg Y a Q env st)/\(t=false->cg Y b Q env st)
  |_=>False
 | .block id a,Q=>Gh Y.lo (cg Y a (fun e env st=>match e with
   | .exit j=>if j=id then Q .normal env st else Q (.exit j) env st
   |e=>Q e env st))
 | .loop a,Q=>Gh Y.lo fun env st=>∃(I:List cA->St->Prop) (μ:List cA->St->Nat),
   I env st/\∀env st,I env st->
   cg Y a (fun e env' st'=>match e with
    | .normal=>∃env2 st2,bm Y.lo env' st' env2 st2/\I env2 st2/\μ env2 st2<μ env st
    |e=>Q e env' st') env st
 | .exit id,Q=>Gh Y.lo (Q (.exit id))
 | .ret,Q=>Gh Y.lo (Q .ret)
 | .skip,Q=>Gh Y.lo (Q .normal)
def Ctx.at (Y:Ctx)(n:Nat):Ctx:={Y with lo:=n}
@[go_sem] def M1 (m:List (Nat×cr))(env:List cA)(r:Vo):D:=match r.mem with
 |none=>(env.getD r.s .un).d
 |some (n,ag)=>G6 m n ag (env.getD r.s .un).d
@[go_sem] def tO (m:List (Nat×cr))(env:List cA):List Vo->Prop
 |[]=>True
 |r::rs=>(env.getD r.s .un).ok=true/\(match r.mem with
   |none=>True
   |some (n,_)=>KP m n (env.getD r.s .un).d)/\tO m env rs
@[go_sem] def tP (m:List (Nat×cr))(env:List cA):List Vo->List D
 |[]=>[]
 |r::rs=>M1 m env r::tP m env rs
@[go_sem] def nM (a:aN)(env:List cA)(st:St):D:=match a.res with
 |[r]=>M1 st.m env r
 |rs=>.tup (tP st.m env rs)
@[go_sem] def retP (a:aN)(env:List cA)(st:St):D:=match a.res with
 |[r]=>lX st.m (a.rsh.getD 0 []) (M1 st.m env r)
 |rs=>.tup (jZ st.m a.rsh (tP st.m env rs))
@[go_sem] def UM (a:aN)(env:List cA)(st:St):Prop:=match a.res with
 |[r]=>kf st.m (a.rsh.getD 0 []) (M1 st.m env r)
 |rs=>lO st.m a.rsh (tP st.m env rs)
@[go_sem] def Ex.home:Ex->Prop
 | .exit _=>False
 |_=>True
@[go_sem] def gz (a:aN)(ds:List D):List cA:=(ds.map fun d=>⟨true,d⟩)++List.replicate (a.ns-a.np) .un
mutual
def gY:Value->Option D
 | .bool b=>some (.bool b)
 | .int k n=>some (.int k n)
 | .string s=>if s.size<=9223372036854775807 then some (.str s.data.toList)else none
 | .pointer none=>some .nilp
 | .slice none 0 0=>some .bg
 | .nilFunc=>some .nilf
 | .agg ⟨cs⟩=>if yO cs then(vX cs).map .agg else none
 |_=>none
def vX:List Value->Option (List D)
 |[]=>some []
 |v::r=>match gY v,vX r with
  |some d,some ds=>some (d::ds)
  |_,_=>none
def yO:List Value->Bool
 |[]=>true
 |v::r=>(match v with
  | .agg _=>false
  | .tuple _=>false
  |_=>true)&&yO r
end
def Na (P:Program):Nat->TypeId->List Sh
 |0,_=>[.a]
 |d+1,t=>match P.underlying t with
  |some (.struct fs)=>(fs.toList.map fun f=>Na P d f.type).flatten
  |some (.array n e)=>(List.replicate n (Na P d e)).flatten
  |some (.slice e)=>[.sl (P.cellsOf e) (Na P d e)]
  |some (.pointer e)=>[.pt (Na P d e)]
  |_=>[.a]
structure CC where
 P:Program
 ν:List (Nat×Nat)
 dr:List Nat
 slots:List Nat
 ntmps:Nat
 vm:Bool
def Cv:List Nat->Nat->Option Nat
 |[],_=>none
 |a::r,t=>if a=t then some 0 else(Cv r t).map (· +1)
def dI:List (Nat×Nat)->Nat->Option Nat
 |[],_=>none
 |(a,b)::r,l=>if a=l then some b else dI r l
def posOf (t:Nat):List (Option Nat)->Option Nat
 |[]=>none
 |a::r=>if a=some t then some 0 else(posOf t r).map (· +1)
def CC.src (C:CC)(defs:List (Option Nat)):Operand->Option Src
 | .tmp t=>match posOf t defs with
  |some p=>some (.l p)
  |none=>(Cv C.slots t).map .s
 | .const v=>(gY v).map .c
 | .func f=>(dI C.ν f).map fun n=>.c (.fn n [])
 | .global _=>none
def CC.yv (C:CC)(defs:List (Option Nat)):List Operand->Option (List Src)
 |[]=>some []
 |x::r=>match C.src defs x,C.yv defs r with
  |some a,some l=>some (a::l)
  |_,_=>none
def CC.opt (C:CC)(defs:List (Option Nat)):Option Operand->Option (Option Src)
 |none=>some none
 |some x=>(C.src defs x).map some
def cY (P:Program)(t:TypeId):Bool:=match P.underlying t with
 |some (.struct _)=>true
 |some (.array ..)=>true
 |_=>false
def oT (P:Program)(k:TypeId->Option (List CK)):Nat->List Field->Option (List CK)
 |_,[]=>some []
 |off,f::r=>if f.name= "_" \/f.offset≠off then none else
  match k f.type,oT P k (off+P.cellsOf f.type) r with
  |some a,some b=>if a.length=P.cellsOf f.type/\a.length≠0/\(P.underlying f.type).isNone=false then some (a++b)else none
  |_,_=>none
def iP (P:Program):Nat->TypeId->Option (List CK)
 |0,_=>none
 |d+1,t=>match P.underlying t with
  |some .bool=>some [.b]
  |some (.int k)=>some [.i k]
  |some .string=>some [.s]
  |some (.struct fs)=>if P.stoodInHeld t then none else oT P (fun t=>iP P d t) 0 fs.toList
  |some (.array n e)=>match iP P d e with
   |some l=>if l.length=P.cellsOf e/\l.length≠0/\(P.underlying e).isNone=false then some (List.replicate n l).flatten else none
   |none=>none
  |_=>none
def CC.parts (C:CC)(defs:List (Option Nat))(place:Nat->Option (Nat×Nat)):List (Nat×Operand)->Option (List (Nat×Nat×Src))
 |[]=>some []
 |(i,x)::r=>match place i,C.src defs x,C.parts defs place r with
  |some (o,n),some s,some l=>if n=0 then none else some ((o,n,s)::l)
  |_,_,_=>none
def CC.Bm (C:CC)(defs:List (Option Nat)):List (Nat×Operand)->Option (List (Nat×Src))
 |[]=>some []
 |(i,x)::r=>match C.src defs x,C.Bm defs r with
  |some s,some l=>some ((i,s)::l)
  |_,_=>none
def vC (P:Program)(t:TypeId):Option D:=((P.info? t).bind (·.zero)).bind gY
def sA (P:Program)(t:TypeId):Bool:=match vC P t with
 |some z=>z.cells.length==P.cellsOf t
 |none=>false
def CC.op (C:CC)(defs:List (Option Nat))(o:Oper):Option bd:=
 match o.op with
 | .move x=>(C.src defs x).map .mv
 | .assign x=>(C.src defs x).map .mv
 | .pick c a b=>match C.src defs c,C.src defs a,C.src defs b with
  |some c,some a,some b=>some (.pick c a b)
  |_,_,_=>none
 | .alloc t=>match vC C.P t with
  |some z=>if C.P.cellsOf t=0 then none else if C.dr.contains (1000000000+t)then(match z with
   | .agg [.nilp,.bg]=>some .mkB
   |_=>none)else some (.box (C.P.cellsOf t) (.c z))
  |none=>none
 | .box t x=>match C.src defs x with
  |some s=>if C.P.cellsOf t=0 then none else some (.box (C.P.cellsOf t) s)
  |none=>none
 | .build t ps=>match vC C.P t,C.P.underlying t with
  |some (.agg z),some (.struct fs)=>if fs.toList.all (fun f=>(C.P.info? f.type).isSome)then(C.parts defs (fun i=>(fs[i]?).map fun f=>(f.offset,C.P.cellsOf f.type)) ps.toList).map (.build z)else none
  |some (.agg z),some (.array _ e)=>if C.P.cellsOf e=0 then none else(C.parts defs (fun i=>some (i*C.P.cellsOf e,C.P.cellsOf e)) ps.toList).map (.build z)
  |_,_=>none
 | .buildSlice t n ps=>match C.P.underlying t with
  |some (.slice e)=>match vC C.P e,C.Bm defs ps.toList with
   |some z,some l=>if C.P.cellsOf e=0\/n*C.P.cellsOf e>16777216 then none else some (.bsl (C.P.cellsOf e) z n l)
   |_,_=>none
  |_=>none
 | .load t a=>match C.src defs a with
  |some s=>if C.P.cellsOf t=0\/(C.P.underlying t).isNone\/(cY C.P t=false/\C.P.cellsOf t≠1)then none else some (.ld (C.P.cellsOf t) (cY C.P t) s)
  |none=>none
 | .store t a x=>match C.src defs a,C.src defs x with
  |some a,some x=>if C.P.cellsOf t=0 then none else some (.st (C.P.cellsOf t) a x)
  |_,_=>none
 | .nilCheck x=>(C.src defs x).map .nilck
 | .binOp op t x y _=>match C.src defs x,C.src defs y with
  |some a,some b=>match C.P.underlying t with
   |some (.int _)=>some (.bin op a b)
   |some .string=>some (.bin op a b)
   |_=>if C.P.eqGuardType C.P.depth t then none else match iP C.P 30 t,op with
    |some ks,.eql=>some (.eqA false (cY C.P t) ks a b)
    |some ks,.neq=>some (.eqA true (cY C.P t) ks a b)
    |none,.eql=>match C.P.underlying t,b with
     |some (.func ..),.c .nilf=>some (.WA a)
     |some (.slice _),.c .bg=>some (.isNl a)
     |_,_=>none
    |_,_=>none
  |_,_=>none
 | .unOp op _ x=>(C.src defs x).map (.un op)
 | .convert s d x=>match C.P.underlying s,C.P.underlying d,C.src defs x with
  |some (.int _),some (.int k),some a=>some (.cvi k a)
  |some (.int _),some .string,some a=>some (.i2s a)
  |some .string,some (.slice e),some a=>match C.P.underlying e with
   |some (.int .u8)=>some (.s2b a)
   |_=>none
  |some (.slice e),some .string,some a=>match C.P.underlying e with
   |some (.int .u8)=>some (.b2s a)
   |_=>none
  |_,_,_=>none
 | .makeFunc (.func f) first caps=>match dI C.ν f,C.yv defs caps.toList with
  |some n,some l=>if first.isEmpty then some (.mkf n l)else if l.isEmpty then(C.yv defs first.toList).map (.mkf (n+1000000))else none
  |_,_=>none
 | .makeSlice t l c=>match C.P.underlying t with
  |some (.slice e)=>match vC C.P e,C.src defs l,C.src defs c with
   |some z,some l,some c=>if C.P.cellsOf e=0\/C.P.bytesOf e>65536 then none else some (.mks (C.P.cellsOf e) z l c)
   |_,_,_=>none
  |_=>none
 | .slice t x lo hi mx=>match C.P.underlying t,C.src defs x,C.opt defs lo,C.opt defs hi,mx with
  |some .string,some a,some l,some h,none=>some (.slS a l h)
  |some (.slice e),some a,some l,some h,none=>if C.P.cellsOf e=0 then none else some (.slA (C.P.cellsOf e) a l h)
  |some (.slice e),some a,some none,some (some h),some m=>match C.src defs m with
   |some m=>if C.P.cellsOf e=0 then none else some (.slX (C.P.cellsOf e) a h m)
   |none=>none
  |_,_,_,_,_=>none
 | .fieldAddr t x f=>match C.P.underlying t,C.src defs x with
  |some (.struct fs),some a=>match fs[f]? with
   |some f=>if C.P.cellsOf f.type=0 then none else some (.fa f.offset a)
   |none=>none
  |_,_=>none
 | .field t x f=>match C.P.underlying t,C.src defs x with
  |some (.struct fs),some a=>match fs[f]? with
   |some f=>if C.P.cellsOf f.type=0\/(C.P.underlying f.type).isNone then none else some (.fld f.offset (C.P.cellsOf f.type) (cY C.P f.type) a)
   |none=>none
  |_,_=>none
 | .indexAddr t x i=>match C.P.underlying t,C.src defs x,C.src defs i with
  |some (.slice e),some a,some b=>if C.P.cellsOf e=0 then none else some (.ia (C.P.cellsOf e) a b)
  |some (.array n e),some a,some b=>if C.P.cellsOf e=0 then none else some (.iaP n (C.P.cellsOf e) a b)
  |_,_,_=>none
 | .index t x i=>match C.P.underlying t,C.src defs x,C.src defs i with
  |some .string,some a,some b=>some (.ixS a b)
  |some (.array n e),some a,some b=>if C.P.cellsOf e=0\/(C.P.underlying e).isNone then none else some (.ixA n (C.P.cellsOf e) (cY C.P e) a b)
  |_,_,_=>none
 | .lookup t x y false=>match C.src defs x,C.src defs y,C.P.underlying t with
  |some a,some b,some (.map k e)=>match C.P.underlying k,vC C.P e with
   |some .string,some .nilf=>some (.lkp a b)
   |_,_=>none
  |_,_,_=>none
 | .range t x=>match C.P.underlying t,C.src defs x with
  |some .string,some a=>some (.yn a)
  |_,_=>none
 | .next it true=>(C.src defs it).map .KQ
 | .extract t i=>(C.src defs t).map fun s=>.ext s i
 | .call c=>match c.callee with
  | .builtin .len=>match c.args.toList,c.argTypes.toList with
   |[x],[t]=>match C.src defs x,C.P.underlying t with
    |some a,some .string=>some (.lenS a)
    |some a,some (.slice _)=>some (.len a)
    |_,_=>none
   |_,_=>none
  | .builtin .min=>match c.args.toList with
   |[x,y]=>match C.src defs x,C.src defs y with
    |some a,some b=>some (.mn a b)
    |_,_=>none
   |_=>none
  | .builtin .append=>match c.args.toList,c.argTypes.toList with
   |[x,y],[t,u]=>match C.src defs x,C.src defs y,C.P.underlying t,C.P.underlying u with
    |some a,some b,some (.slice e),some (.slice _)=>if C.P.cellsOf e=0\/C.P.bytesOf e>65536\/C.P.bytesOf e=0\/sA C.P e=false then none else some (.app (C.P.cellsOf e) a b)
    |some a,some b,some (.slice e),some .string=>if C.P.cellsOf e=0\/C.P.bytesOf e>65536\/C.P.bytesOf e=0\/sA C.P e=false then none else some (.app (C.P.cellsOf e) a b)
    |_,_,_,_=>none
   |_,_=>none
  | .value (.func f)=>match dI C.ν f,C.yv defs c.args.toList with
   |some n,some l=>if C.dr.contains (2*n)then some (.callM n l)else if C.dr.contains (2*n+1)then(match l with
     |r::rest=>some (.callF n r rest ((c.argTypes.toList.map (Na C.P 8)).drop 1))
     |[]=>none)else some (.call n l (c.argTypes.toList.map (Na C.P 8)))
   |_,_=>none
  | .value (.tmp t)=>match C.src defs (.tmp t),C.yv defs c.args.toList with
   |some s,some l=>if C.vm then some (.callvM s l)else some (.callv s l (c.argTypes.toList.map (Na C.P 8)))
   |_,_=>none
  |_=>none
 |_=>none
def CC.guard (defs:List (Option Nat)):Option (Nat×Bool)->Option (Option (Nat×Bool))
 |none=>some none
 |some (j,w)=>match defs[j]? with
  |some (some _)=>some (some (j,w))
  |_=>none
def CC.ops (C:CC):(defs:List (Option Nat))->List Oper->Option (List GI)
 |_,[]=>some []
 |defs,o::r=>match C.op defs o,CC.guard defs o.guard,C.ops (defs++[o.dst]) r with
  |some i,some g,some l=>if o.dst.all (fun d=>d<C.ntmps&& !defs.contains (some d))then some (⟨i,g⟩::l)else none
  |_,_,_=>none
def CC.jl (C:CC):Nat->List Oper->List (Nat×Nat)
 |_,[]=>[]
 |p,o::r=>match o.dst.bind (Cv C.slots)with
  |some s=>(s,p)::C.jl (p+1) r
  |none=>C.jl (p+1) r
def tA (acc:List Nat):List Edge->Nat
 |[]=>0
 |e::r=>if Region.binds .any e then(2^e.on |||acc.getD e.on 0) |||tA acc r else tA acc r
def rI:List Nat->List Oper->List Nat
 |acc,[]=>acc
 |acc,o::r=>rI (acc++[tA acc o.after.toList]) r
def tmpsOf (ops:List Oper)(o:Oper):List Nat:=
 (o.op.operands.toList.filterMap fun
   | .tmp t=>some t
   |_=>none)++(match o.guard with
   |some (g,_)=>((ops[g]?).bind (·.dst)).toList
   |none=>[])
def UL (ops:List Oper)(bs:List Nat):Bool:=
 (List.range ops.length).all fun j=>(List.range ops.length).all fun p=>match ops[j]?,ops[p]? with
   |some oj,some op=>match op.dst with
    |some t=>p==j ||!(tmpsOf ops oj).contains t ||(bs.getD (max j p) 0).testBit (min j p)
    |none=>true
   |_,_=>false
def bd.pure:bd->Bool
 | .mv _=>true
 | .pick .. =>true
 | .build .. =>true
 | .nilck _=>true
 | .bin .. =>true
 | .eqA .. =>true
 | .un .. =>true
 | .cvi .. =>true
 | .mn .. =>true
 | .i2s _=>true
 | .mkf .. =>true
 | .slS .. =>true
 | .slA .. =>true
 | .slX .. =>true
 | .fa .. =>true
 | .fld .. =>true
 | .ia .. =>true
 | .iaP .. =>true
 | .ixS .. =>true
 | .ixA .. =>true
 | .ext .. =>true
 | .len _=>true
 | .lenS _=>true
 | .ldI .. =>true
 | .bslI .. =>true
 | .lkp .. =>true
 | .WA _=>true
 |_=>false
def Sh.isA:Sh->Bool
 | .a=>true
 |_=>false
def bd.free:bd->Bool
 | .call _ _ sh=>sh.all fun s=>s.all Sh.isA
 |i=>i.pure
def bd.lM:bd->Bool
 | .box .. =>true
 | .bsl .. =>true
 | .mks .. =>true
 | .s2b .. =>true
 | .yn .. =>true
 | .mkB=>true
 |_=>false
def bd.isApp:bd->Bool
 | .app .. =>true
 |_=>false
def bd.pO:bd->Bool
 | .callF .. =>true
 |_=>false
def bd.zk:bd->Bool
 | .ldU .. =>true
 |_=>false
def exU (l:List GI)(gj gi:bd)(j i:Nat):Bool:=gj.pO&&(gi.zk&&(decide (i<j)&&(List.range j).all fun q=>decide (q<=i) ||match l[q]? with
 |some g=>g.i.calm ||g.i.pO
 |none=>true))
def agn (l:List GI)(bs:List Nat):Bool:=
 (List.range l.length).all fun j=>(List.range l.length).all fun i=>match l[j]?,l[i]? with
   |some gj,some gi=>gj.i.calm ||gi.i.free ||(gi.i.lM&& !gj.i.isApp) ||i==j ||(bs.getD (max j i) 0).testBit (min j i) ||exU l gj.i gi.i j i
   |_,_=>false
def bd.dT:bd->Bool
 | .callM .. =>true
 | .callvM .. =>true
 | .isNl _=>true
 |_=>false
def CL:Nat->List Oper->Bool
 |_,[]=>true
 |p,o::r=>o.after.toList.all (fun e=>!Region.binds .any e ||decide (e.on<p))&&CL (p+1) r
def sufG:GI->Bool
 |⟨.mv _,none⟩=>true
 |⟨.un ..,_⟩=>true
 |⟨.pick ..,none⟩=>true
 |_=>false
def UQ:List GI->Bool
 |⟨.callM ..,_⟩::r=>r.all sufG
 |⟨.callvM ..,_⟩::r=>r.all sufG
 |_=>false
def Uf (l:List GI)(bs:List Nat):Bool:=
 let n:=l.findIdx fun g=>g.i.dT
 UQ (l.drop n)&&((l.take n).all (fun g=>!g.i.dT)&&(List.range (l.length-n)).all fun q=>(List.range (n+q)).all fun p=>(bs.getD (n+q) 0).testBit p)
def EP (ops:List Oper)(l:List GI):Bool:=
 let bs:=rI [] ops
 UL ops bs&&(agn l bs&&(((l.all fun g=>!g.i.dT) ||Uf l bs)&&CL 0 ops))
def bd.toN:bd->bd
 | .app k (.c .bg) y=>.appN k y
 |i=>i
def looseAt (bs:List Nat)(l:List GI)(i:Nat):Bool:=
 (List.range l.length).any fun j=>match l[j]? with
   |some gj=>!(gj.i.toN.calm ||i==j ||(bs.getD (max j i) 0).testBit (min j i))
   |none=>false
def aik (bs:List Nat)(l:List GI)(i:Nat):Bool:=
 (List.range l.length).all fun j=>match l[j]? with
   |some gj=>gj.i.toN.calm ||i==j ||(bs.getD (max j i) 0).testBit (min j i) ||(gj.i.pO&&(decide (i<j)&&(List.range j).all fun q=>decide (q<=i) ||match l[q]? with
    |some g=>g.i.toN.calm ||g.i.pO
    |none=>true))
   |none=>true
def aic (bs:List Nat)(l:List GI)(p:Nat):Bool:=
 (List.range l.length).any fun j=>match l[j]? with
   |some ⟨.ia _ (.l q) _,_⟩=>Nat.beq q p&&(List.range l.length).any fun i=>match l[i]? with
    |some ⟨.ld _ _ (.l r),_⟩=>Nat.beq r j&&looseAt bs l i
    |_=>false
   |_=>false
def pk (bs:List Nat)(l0:List GI):Nat->List GI->List GI
 |_,[]=>[]
 |p,g::r=>(match g.i with
  | .ld n ag x=>if looseAt bs l0 p then(if aik bs l0 p then⟨.ldU n ag x,g.g⟩else⟨.ldI n ag x,g.g⟩)else g
  | .bsl k z n ps=>if aic bs l0 p then⟨.bslI k z n ps,g.g⟩else g
  |i=>⟨i.toN,g.g⟩)::pk bs l0 (p+1) r
def CC.code (C:CC):Code->Option AC
 | .skip=>some .skip
 | .region _ ops draw=>match C.ops [] ops.toList with
  |some l=>if draw then
    if EP ops.toList (pk (rI [] ops.toList) l 0 l)then some (.reg true (pk (rI [] ops.toList) l 0 l) (C.jl 0 ops.toList))else none
   else some (.reg false l (C.jl 0 ops.toList))
  |none=>none
 | .seq a b=>match C.code a,C.code b with
  |some a,some b=>some (.seq a b)
  |_,_=>none
 | .cond c a b=>match C.src [] c,C.code a,C.code b with
  |some c,some a,some b=>some (.cond c a b)
  |_,_,_=>none
 | .block id a=>(C.code a).map (.block id)
 | .loop a=>(C.code a).map .loop
 | .exit id=>some (.exit id)
 | .ret=>some .ret
 | .scope a=>C.code a
 | .label _=>some .skip
 |_=>none
def U0:(defs:List (Option Nat))->List Oper->List Nat
 |_,[]=>[]
 |defs,o::r=>(o.op.operands.toList.filterMap fun
   | .tmp t=>if(posOf t defs).isNone then some t else none
   |_=>none)++U0 (defs++[o.dst]) r
def Gv:Code->List Nat
 | .region _ ops _=>U0 [] ops.toList
 | .seq a b=>Gv a++Gv b
 | .cond c a b=>(match c with
  | .tmp t=>[t]
  |_=>[])++Gv a++Gv b
 | .block _ a=>Gv a
 | .loop a=>Gv a
 | .scope a=>Gv a
 |_=>[]
def wx:List ResultVar->List Nat
 |[]=>[]
 | .tmp t::r=>t::wx r
 | .cell t _::r=>t::wx r
def dedup:List Nat->List Nat->List Nat
 |acc,[]=>acc.reverse
 |acc,a::r=>if acc.contains a then dedup acc r else dedup (a::acc) r
def zr (P:Program)(sl:List Nat):List ResultVar->Option (List Vo)
 |[]=>some []
 | .tmp t::r=>match Cv sl t,zr P sl r with
  |some a,some l=>some (⟨a,none⟩::l)
  |_,_=>none
 | .cell t ty::r=>match Cv sl t,zr P sl r with
  |some a,some l=>if P.cellsOf ty=0\/(P.underlying ty).isNone\/(cY P ty=false/\P.cellsOf ty≠1)then none else some (⟨a,some (P.cellsOf ty,cY P ty)⟩::l)
  |_,_=>none
def slotsOf (fn:Func):List Nat:=dedup [] (List.range (fn.params.size+fn.nfree)++wx fn.results.toList++Gv (fn.body.getD .skip))
def vmOps (P:Program)(ops:List Oper):Bool:=ops.any fun o=>match o.op with
 | .makeFunc _ first _=>!first.isEmpty
 | .lookup t _ _ _=>(match P.underlying t with
  |some (.map _ e)=>(match P.underlying e with
   |some (.func ..)=>true
   |_=>false)
  |_=>false)
 | .call c=>(match c.callee with
  | .value (.tmp _)=>c.argTypes.toList.any fun t=>match P.underlying t with
   |some (.pointer _)=>true
   |_=>false
  |_=>false)
 |_=>false
def Nv (P:Program):Code->Bool
 | .region _ ops _=>vmOps P ops.toList
 | .seq a b=>Nv P a ||Nv P b
 | .cond _ a b=>Nv P a ||Nv P b
 | .block _ a=>Nv P a
 | .loop a=>Nv P a
 | .scope a=>Nv P a
 |_=>false
def XC (P:Program)(fn:Func):Bool:=Nv P (fn.body.getD .skip)
def compile (P:Program)(ν:List (Nat×Nat))(dr:List Nat)(fn:Func):Option aN:=
 match fn.body with
 |some body=>
  match CC.code {P,ν,dr,slots:=slotsOf fn,ntmps:=fn.ntmps,vm:=XC P fn} body,zr P (slotsOf fn) fn.results.toList with
  |some a,some res=>
   if fn.params.size+fn.nfree<=fn.ntmps then some {np:=fn.params.size+fn.nfree,ns:=(slotsOf fn).length,res,rsh:=fn.resultTypes.toList.map (Na P 8),body:=a}else none
  |_,_=>none
 |none=>none
section
structure X where
 w:World
 I:Nat->Prop
 β:Nat->Option (Nat×Nat×Nat)
def mpV (es:List MapEntry)(i:Nat):Value:=match es[i/2]? with
 |some e=>if i%2=0 then e.key else e.val
 |none=>undef
inductive RD (ν:List (Nat×Nat))(x:X):Value->D->Prop
 |any (v:Value):RD ν x v .any
 |bool (b:Bool):RD ν x (.bool b) (.bool b)
 |int (k:IntKind) (n:Int):RD ν x (.int k n) (.int k n)
 |str (s:List UInt8) (h:s.length<=maxLen):RD ν x (.string ⟨⟨s⟩⟩) (.str s)
 |agg (cs:Array Value) (ds:List D) (hl:cs.size=ds.length) (h1:∀i,i<ds.length->(cs.getD i undef).oneCell'=true)
   (h:∀i,i<ds.length->RD ν x (cs.getD i undef) (ds.getD i .any)):RD ν x (.agg cs) (.agg ds)
 |tup (cs:Array Value) (ds:List D) (hl:cs.size=ds.length)
   (h:∀i,i<ds.length->RD ν x (cs.getD i undef) (ds.getD i .any)):RD ν x (.tuple cs) (.tup ds)
 |bg:RD ν x (.slice none 0 0) .bg
 |sl (a:Option Addr) (b off len cap k:Nat) (es:List D) (c:Nat->Nat->Value) (hlen:len=es.length)
   (ha:es=[]\/(a=some ⟨b,off,none⟩/\x.I b)) (hcap:len<=cap) (hm:cap<=maxLen)
   (hk:∀i,i<len->(es.getD i .any).cells.length=k) (hn:∀i,i<len->(es.getD i .any).bN=true)
   (hc:∀i j,i<len->j<k->x.w.cell? ⟨b,off+i*k+j,none⟩=some (c i j))
   (h1:∀i j,i<len->j<k->(c i j).oneCell'=true)
   (h:∀i j,i<len->j<k->RD ν x (c i j) ((es.getD i .any).cells.getD j .any)):RD ν x (.slice a len cap) (.sl k es)
 |ref (b off k i o at_:Nat) (es:List D) (c:Nat->Nat->Value) (hI:x.I b) (hat:at_=off+i*k+o)
   (hk:∀i,i<es.length->(es.getD i .any).cells.length=k) (hn:∀i,i<es.length->(es.getD i .any).bN=true)
   (hc:∀i j,i<es.length->j<k->x.w.cell? ⟨b,off+i*k+j,none⟩=some (c i j))
   (h1:∀i j,i<es.length->j<k->(c i j).oneCell'=true)
   (h:∀i j,i<es.length->j<k->RD ν x (c i j) ((es.getD i .any).cells.getD j .any)):RD ν x (.pointer (some ⟨b,at_,none⟩)) (.ref k es i o)
 |ptr (l k i o b base tot at_:Nat) (hβ:x.β l=some (b,base,tot)) (hat:at_=base+i*k+o):RD ν x (.pointer (some ⟨b,at_,none⟩)) (.ptr l k i o)
 |own (l k i n b base tot cap:Nat) (a:Addr) (hβ:x.β l=some (b,base,tot)) (ha:0<cap->a=⟨b,base+i*k,none⟩)
   (hcap:n<=cap) (hm:cap<=maxLen) (ht:i+cap<=tot):RD ν x (.slice (some a) n cap) (.own l k i n)
 |own0 (l k i:Nat) (a:Option Addr):RD ν x (.slice a 0 0) (.own l k i 0)
 |nilp:RD ν x (.pointer none) .nilp
 |fn (fid n:Nat) (cs:Array Value) (ds:List D) (hν:dI ν fid=some n) (hl:cs.size=ds.length)
   (h:∀i,i<ds.length->RD ν x (cs.getD i undef) (ds.getD i .any)):RD ν x (.func (.func fid) #[] cs) (.fn n ds)
 |fV (fid n:Nat) (fs:Array Value) (ds:List D) (hν:dI ν fid=some n) (hl:fs.size=ds.length)
   (h:∀i,i<ds.length->RD ν x (fs.getD i undef) (ds.getD i .any)):RD ν x (.func (.func fid) fs #[]) (.fn (n+1000000) ds)
 |nilf:RD ν x .nilFunc .nilf
 |mp (r:Nat) (es:Array MapEntry) (cl:Nat) (ds:List D) (hI:x.I r) (hh:x.w.heap[r]? =some (.map es cl)) (hl:2*es.size=ds.length)
   (h:∀i,i<ds.length->RD ν x (mpV es.toList i) (ds.getD i .any)):RD ν x (.map (some r)) (.fn 2000000 ds)
 |bx (b at_:Nat) (ds:List D) (v:Value) (hI:x.I b) (hc:x.w.cell? ⟨b,at_,none⟩=some v) (h1:v.oneCell'=true) (hl:ds.length=1)
   (h:∀i,i<ds.length->RD ν x v (ds.getD i .any)):RD ν x (.pointer (some ⟨b,at_,none⟩)) (.fn 3000000 ds)
 |it (l b base tot:Nat) (hβ:x.β l=some (b,base,tot)):RD ν x (.pointer (some ⟨b,0,none⟩)) (.it l)
section
variable {ν:List (Nat×Nat)} {x x':X}
structure Le (x x':X):Prop where
 I:∀b,x.I b->x'.I b
 qw:∀b,x.I b->x'.w.heap[b]? =x.w.heap[b]?
 β:∀l p,x.β l=some p->x'.β l=some p
theorem im {w w':World}{b o:Nat}{v:Value}(h:w'.heap[b]? =w.heap[b]?)(hc:w.cell? ⟨b,o,none⟩=some v):w'.cell? ⟨b,o,none⟩=some v:=by
 rw[<-hc];unfold World.cell?;simp only[h]
def Le.refl (x:X):Le x x:=⟨fun _ h=>h,fun _ _=>rfl,fun _ _ h=>h⟩
def Le.trans {x'':X}(h:Le x x')(h':Le x' x''):Le x x'':=
 ⟨fun b hb=>h'.I b (h.I b hb),fun b hb=>(h'.qw b (h.I b hb)).trans (h.qw b hb),fun l p hp=>h'.β l p (h.β l p hp)⟩
def RD.mono {v:Value}{d:D}(h:RD ν x v d)(hl:Le x x'):RD ν x' v d:=by
 induction h with
 |any v=>exact .any v
 |bool b=>exact .bool b
 |int k n=>exact .int k n
 |str s h=>exact .str s h
 |agg cs ds hl' h1 _ ih=>exact .agg cs ds hl' h1 ih
 |tup cs ds hl' _ ih=>exact .tup cs ds hl' ih
 |bg=>exact .bg
 |sl a b off len cap k es c hlen ha hcap hm hk hn hc h1 _ ih=>
  refine .sl a b off len cap k es c hlen (ha.imp id fun⟨p,q⟩=>⟨p,hl.I _ q⟩) hcap hm hk hn (fun i j hi hj=>?_) h1 ih;rcases ha with rfl|⟨_,hI⟩
  .simp at hlen;omega
  .exact im (hl.qw _ hI) (hc i j hi hj)
 |ref b off k i o at_ es c hI hat hk hn hc h1 _ ih=>
  exact .ref b off k i o at_ es c (hl.I _ hI) hat hk hn (fun i j hi hj=>im (hl.qw _ hI) (hc i j hi hj)) h1 ih
 |ptr l k i o b base tot at_ hβ hat=>exact .ptr l k i o b base tot at_ (hl.β _ _ hβ) hat
 |own l k i n b base tot cap a hβ ha hcap hm ht=>exact .own l k i n b base tot cap a (hl.β _ _ hβ) ha hcap hm ht
 |own0 l k i a=>exact .own0 l k i a
 |nilp=>exact .nilp
 |fn fid n cs ds hν hl' _ ih=>exact .fn fid n cs ds hν hl' ih
 |fV fid n cs ds hν hl' _ ih=>exact .fV fid n cs ds hν hl' ih
 |nilf=>exact .nilf
 |mp r es cl ds hI hh hl' _ ih=>exact .mp r es cl ds (hl.I _ hI) ((hl.qw _ hI).trans hh) hl' ih
 |bx b at_ ds v hI hc h1 hl' _ ih=>exact .bx b at_ ds v (hl.I _ hI) (im (hl.qw _ hI) hc) h1 hl' ih
 |it l b base tot hβ=>exact .it l b base tot (hl.β _ _ hβ)
def dC:∀{ds:List D},bK ds=true->∀i,(ds.getD i .any).bN=true
 |[],_,i=>by simp[D.bN]
 |d::r,h,0=>by simp[bK]at h;simpa using h.1
 |d::r,h,i+1=>by simp[bK]at h;simpa using dC h.2 i
def k8:∀{ds:List D},qA ds=true->∀i,(ds.getD i .any).gH=true
 |[],_,i=>by simp[D.gH]
 |d::r,h,0=>by simp[qA]at h;simpa using h.1
 |d::r,h,i+1=>by simp[qA]at h;simpa using k8 h.2 i
def uN:∀{ds:List D},(∀i,i<ds.length->(ds.getD i .any).bN=true)->bK ds=true
 |[],_=>rfl
 |d::r,h=>by
  simp only[bK,bM];exact⟨by simpa using h 0 aI,uN fun i hi=>by simpa using h (i+1) dk⟩
def nE {d:D}(h:d.bN=true)(j:Nat):(d.cells.getD j .any).bN=true:=by
 cases d<;>simp only[D.cells]<;>first
  |(simp only[D.bN]at h;exact dC h j)
  |(cases j<;>simp_all[D.bN])
def RD.bN {v:Value}{d:D}(h:RD ν x v d)(hn:d.bN=true)(hI:∀b,x.I b->x'.I b)(hk:∀b,x.I b->x'.w.heap[b]? =x.w.heap[b]?):RD ν x' v d:=by
 induction h with
 |any v=>exact .any v
 |bool b=>exact .bool b
 |int k n=>exact .int k n
 |str s h=>exact .str s h
 |agg cs ds hl' h1 _ ih=>exact .agg cs ds hl' h1 fun i hi=>ih i hi (dC (by simpa[D.bN]using hn) i)
 |tup cs ds hl' _ ih=>exact .tup cs ds hl' fun i hi=>ih i hi (dC (by simpa[D.bN]using hn) i)
 |bg=>exact .bg
 |sl a b off len cap k es c hlen ha hcap hm hk' hn' hc h1 _ ih=>
  refine .sl a b off len cap k es c hlen (ha.imp id fun⟨p,q⟩=>⟨p,hI _ q⟩) hcap hm hk' hn' (fun i j hi hj=>?_) h1 fun i j hi hj=>ih i j hi hj (nE (hn' i hi) j)
  grind [im]
 |ref b off k i o at_ es c hIb hat hk' hn' hc h1 _ ih=>
  exact .ref b off k i o at_ es c (hI _ hIb) hat hk' hn' (fun i j hi hj=>im (hk _ hIb) (hc i j hi hj)) h1 fun i j hi hj=>ih i j hi hj (nE (hn' i hi) j)
 |ptr=>simp[D.bN]at hn
 |own=>simp[D.bN]at hn
 |own0=>simp[D.bN]at hn
 |nilp=>exact .nilp
 |fn fid n cs ds hν hl' _ ih=>exact .fn fid n cs ds hν hl' fun i hi=>ih i hi (dC (by simpa[D.bN]using hn) i)
 |fV fid n cs ds hν hl' _ ih=>exact .fV fid n cs ds hν hl' fun i hi=>ih i hi (dC (by simpa[D.bN]using hn) i)
 |nilf=>exact .nilf
 |mp r es cl ds hIr hh hl' _ ih=>exact .mp r es cl ds (hI _ hIr) ((hk _ hIr).trans hh) hl' fun i hi=>ih i hi (dC (by simpa[D.bN]using hn) i)
 |bx b at_ ds v hIr hc h1 hl' _ ih=>exact .bx b at_ ds v (hI _ hIr) (im (hk _ hIr) hc) h1 hl' fun i hi=>ih i hi (dC (by simpa[D.bN]using hn) i)
 |it=>simp[D.bN]at hn
def RD.gH {v:Value}{d:D}(h:RD ν x v d)(hn:d.gH=true):RD ν x' v d:=by
 induction h with
 |any v=>exact .any v
 |bool b=>exact .bool b
 |int k n=>exact .int k n
 |str s h=>exact .str s h
 |agg cs ds hl' h1 _ ih=>exact .agg cs ds hl' h1 fun i hi=>ih i hi (k8 (by simpa[D.gH]using hn) i)
 |tup cs ds hl' _ ih=>exact .tup cs ds hl' fun i hi=>ih i hi (k8 (by simpa[D.gH]using hn) i)
 |bg=>exact .bg
 |sl=>simp[D.gH]at hn
 |ref=>simp[D.gH]at hn
 |ptr=>simp[D.gH]at hn
 |own=>simp[D.gH]at hn
 |own0=>simp[D.gH]at hn
 |nilp=>exact .nilp
 |fn fid n cs ds hν hl' _ ih=>exact .fn fid n cs ds hν hl' fun i hi=>ih i hi (k8 (by simp[D.gH]at hn;exact hn.2) i)
 |fV fid n cs ds hν hl' _ ih=>exact .fV fid n cs ds hν hl' fun i hi=>ih i hi (k8 (by simp[D.gH]at hn;exact hn.2) i)
 |nilf=>exact .nilf
 |mp=>simp[D.gH]at hn
 |bx=>simp[D.gH]at hn
 |it=>simp[D.gH]at hn
theorem RD.cells {v:Value}{d:D}(h:RD ν x v d)(hd:0<d.cells.length):
  v.cells.size=d.cells.length/\∀j,j<d.cells.length->(v.cells.getD j undef).oneCell'=true/\RD ν x (v.cells.getD j undef) (d.cells.getD j .any):=by
 cases h with
 |any=>simp[D.cells]at hd
 |tup=>simp[D.cells]at hd
 |agg cs ds hl h1 h=>exact⟨hl,fun j hj=>⟨h1 j hj,h j hj⟩⟩
 |bool b=>exact⟨rfl,fun j hj=>by simp[D.cells]at hj;subst hj;exact⟨rfl,.bool b⟩⟩
 |int k n=>exact⟨rfl,fun j hj=>by simp[D.cells]at hj;subst hj;exact⟨rfl,.int k n⟩⟩
 |str s h=>exact⟨rfl,fun j hj=>by simp[D.cells]at hj;subst hj;exact⟨rfl,.str s h⟩⟩
 |bg=>exact⟨rfl,fun j hj=>by simp[D.cells]at hj;subst hj;exact⟨rfl,.bg⟩⟩
 |sl a b off len cap k es c hlen ha hcap hm hk hn hc h1 h=>exact⟨rfl,fun j hj=>by simp[D.cells]at hj;subst hj;exact⟨rfl,.sl a b off len cap k es c hlen ha hcap hm hk hn hc h1 h⟩⟩
 |ref b off k i o at_ es c hI hat hk hn hc h1 h=>exact⟨rfl,fun j hj=>by simp[D.cells]at hj;subst hj;exact⟨rfl,.ref b off k i o at_ es c hI hat hk hn hc h1 h⟩⟩
 |ptr l k i o b base tot at_ hβ hat=>exact⟨rfl,fun j hj=>by simp[D.cells]at hj;subst hj;exact⟨rfl,.ptr l k i o b base tot at_ hβ hat⟩⟩
 |own l k i n b base tot cap a hβ ha hcap hm ht=>exact⟨rfl,fun j hj=>by simp[D.cells]at hj;subst hj;exact⟨rfl,.own l k i n b base tot cap a hβ ha hcap hm ht⟩⟩
 |own0 l k i a=>exact⟨rfl,fun j hj=>by simp[D.cells]at hj;subst hj;exact⟨rfl,.own0 l k i a⟩⟩
 |nilp=>exact⟨rfl,fun j hj=>by simp[D.cells]at hj;subst hj;exact⟨rfl,.nilp⟩⟩
 |fn fid n cs ds hν hl h=>exact⟨rfl,fun j hj=>by simp[D.cells]at hj;subst hj;exact⟨rfl,.fn fid n cs ds hν hl h⟩⟩
 |fV fid n cs ds hν hl h=>exact⟨rfl,fun j hj=>by simp[D.cells]at hj;subst hj;exact⟨rfl,.fV fid n cs ds hν hl h⟩⟩
 |nilf=>exact⟨rfl,fun j hj=>by simp[D.cells]at hj;subst hj;exact⟨rfl,.nilf⟩⟩
 |mp r es cl ds hI hh hl h=>exact⟨rfl,fun j hj=>by simp[D.cells]at hj;subst hj;exact⟨rfl,.mp r es cl ds hI hh hl h⟩⟩
 |bx b at_ ds v hI hc h1 hl h=>exact⟨rfl,fun j hj=>by simp[D.cells]at hj;subst hj;exact⟨rfl,.bx b at_ ds v hI hc h1 hl h⟩⟩
 |it l b base tot hβ=>exact⟨rfl,fun j hj=>by simp[D.cells]at hj;subst hj;exact⟨rfl,.it l b base tot hβ⟩⟩
end
end
section
section
variable {ν:List (Nat×Nat)} {x x':X}
class df where
 tB:TypeId:=0
 tU:TypeId:=0
 gd:X->Prop
 le:∀x x':X,(∀b,x.I b->x'.I b)->(∀b,x.I b->x'.w.heap[b]? =x.w.heap[b]?)->gd x->gd x'
variable [df]
def rq (ν:List (Nat×Nat))(x:X)(b base tot:Nat):cr->Prop
 | .buf k es=>0<k/\es.length<=tot/\∃c T fr,x.w.heap[b]? =some (.cells c T fr)/\base+tot*k<=c.size/\
   (∀o,o<c.size->¬(fr.1<=o/\o<fr.2))/\
   ∀i,i<es.length->(es.getD i .any).cells.length=k/\∀j,j<k->
    (c.getD (base+i*k+j) undef).oneCell'=true/\RD ν x (c.getD (base+i*k+j) undef) ((es.getD i .any).cells.getD j .any)
 | .iter s pos=>x.w.heap[b]? =some (.stringIter ⟨⟨s⟩⟩ pos)/\s.length<=maxLen
 | .row s=>base=0/\∃c,x.w.heap[b]? =some (.cells c df.tU (0,0))/\c.size=tot/\tot<=maxLen/\s.length<=tot/\∀i,i<s.length->c.getD i undef=.int .u8 (s.getD i 0).toNat
 | .bld o n u=>base=0/\∃v,x.w.heap[b]? =some (.cells #[.pointer (if u=true then some ⟨b,0,none⟩else none),v] df.tB (0,0))/\
   match o with
   |none=>n=0/\v=.slice none 0 0
   |some l=>∃g t,v=.slice (some ⟨g,0,none⟩) n t/\n<=t/\x.β l=some (g,0,t)
def uC (h:Le x x')(hg:df.gd x):df.gd x':=df.le x x' h.I h.qw hg
structure ie (ν:List (Nat×Nat))(x:X)(f:Nat->Option cr):Prop where
 own:∀l blk b base tot,f l=some blk->x.β l=some (b,base,tot)->¬x.I b/\rq ν x b base tot blk
 inj:∀l l' b base tot base' tot',f l≠none->f l'≠none->x.β l=some (b,base,tot)->x.β l'=some (b,base',tot')->l=l'
 imm:∀b,x.I b->b<x.w.heap.size
 fV:∀l b base tot,x.β l=some (b,base,tot)->b<x.w.heap.size
 gd:df.gd x
structure Step (x x':X):Prop where
 os:x'.w.os=x.w.os
 tape:x'.w.tape=x.w.tape
 output:x'.w.output=x.w.output
 size:x.w.heap.size<=x'.w.heap.size
 I:∀b,x.I b->x'.I b
 qw:∀b,x.I b->x'.w.heap[b]? =x.w.heap[b]?
 β:∀l p,x.β l=some p->x'.β l=some p
 old:∀b,b<x.w.heap.size->(∀l p,x.β l=some p->p.1≠b)->x'.w.heap[b]? =x.w.heap[b]?
 newI:∀b,x'.I b->x.I b\/x.w.heap.size<=b\/∃l p,x.β l=some p/\p.1=b
 newβ:∀l p,x'.β l=some p->x.β l=some p\/x.w.heap.size<=p.1\/∃l' p',x.β l'=some p'/\p'.1=p.1
def Step.le (h:Step x x'):Le x x':=⟨h.I,h.qw,h.β⟩
def Step.refl (x:X):Step x x:=⟨rfl,rfl,rfl,aH _,fun _ h=>h,fun _ _=>rfl,fun _ _ h=>h,fun _ _ _=>rfl,fun _ h=>.inl h,fun _ _ h=>.inl h⟩
def Step.trans {x'':X}(h:Step x x')(h':Step x' x''):Step x x'':=by
 refine⟨h'.os.trans h.os,h'.tape.trans h.tape,h'.output.trans h.output,c7 h.size h'.size,fun b hb=>h'.I b (h.I b hb),
  fun b hb=>(h'.qw b (h.I b hb)).trans (h.qw b hb),fun l p hp=>h'.β l p (h.β l p hp), ?_, ?_, ?_⟩
 .intro b hb hn;refine(h'.old b (cz hb h.size) ?_).trans (h.old b hb hn);intro l p hp e;rcases h.newβ l p hp with h1|h1|⟨l',p',h1,h2⟩
  .exact hn l p h1 e
  .omega
  .exact hn l' p' h1 (h2.trans e)
 .intro b hb;rcases h'.newI b hb with h1|h1|⟨l,p,h1,h2⟩
  .exact h.newI b h1
  .exact .inr (.inl (c7 h.size h1))
  .rcases h.newβ l p h1 with h3|h3|⟨l',p',h3,h4⟩
   .exact .inr (.inr ⟨l,p,h3,h2⟩)
   .exact .inr (.inl (h2▸h3))
   .exact .inr (.inr ⟨l',p',h3,h4.trans h2⟩)
 .intro l p hp;rcases h'.newβ l p hp with h1|h1|⟨l',p',h1,h2⟩
  .exact h.newβ l p h1
  .exact .inr (.inl (c7 h.size h1))
  .rcases h.newβ l' p' h1 with h3|h3|⟨l'',p'',h3,h4⟩
   .exact .inr (.inr ⟨l',p',h3,h2⟩)
   .exact .inr (.inl (h2▸h3))
   .exact .inr (.inr ⟨l'',p'',h3,h4.trans h2⟩)
def rq.mono {b base tot:Nat}{blk:cr}(h:rq ν x b base tot blk)(hl:Le x x')(hb:x'.w.heap[b]? =x.w.heap[b]?):rq ν x' b base tot blk:=by
 cases blk with
 |buf k es=>
  obtain⟨hk,ht,c,T,fr,h1,h2,h3,h4⟩:=h;exact⟨hk,ht,c,T,fr,hb.trans h1,h2,h3,fun i hi=>⟨(h4 i hi).1,fun j hj=>⟨((h4 i hi).2 j hj).1,((h4 i hi).2 j hj).2.mono hl⟩⟩⟩
 |iter s pos=>exact⟨hb.trans h.1,h.2⟩
 |row s=>
  obtain⟨h0,c,h1,h2⟩:=h;exact⟨h0,c,hb.trans h1,h2⟩
 |bld o n u=>
  obtain⟨h0,v,h1,h2⟩:=h;refine⟨h0,v,hb.trans h1, ?_⟩;cases o with
  |none=>exact h2
  |some l=>
   obtain⟨g,t,h3,h4,h5⟩:=h2;exact⟨g,t,h3,h4,hl.β _ _ h5⟩
structure dR (w w':World):Prop where
 os:w'.os=w.os
 tape:w'.tape=w.tape
 output:w'.output=w.output
 size:w.heap.size<=w'.heap.size
 old:∀b,b<w.heap.size->w'.heap[b]? =w.heap[b]?
def dR.refl (w:World):dR w w:=⟨rfl,rfl,rfl,aH _,fun _ _=>rfl⟩
def dx (w:World)(o:Obj)(b:Nat)(hb:b<w.heap.size):(w.alloc o).heap[b]? =w.heap[b]? :=by
 simp only[World.alloc,Array.getElem?_push];rw[ar ae]
def cR (w:World)(o:Obj):(w.alloc o).heap[w.heap.size]? =some o:=by show(w.heap.push o)[w.heap.size]? =some o;simp
def dR.alloc (w:World)(o:Obj):dR w (w.alloc o):=⟨rfl,rfl,rfl,aI,fun b hb=>dx w o b hb⟩
def dR.trans {w w' w'':World}(h:dR w w')(h':dR w' w''):dR w w'':=
 ⟨h'.os.trans h.os,h'.tape.trans h.tape,h'.output.trans h.output,c7 h.size h'.size,fun b hb=>(h'.old b (cz hb h.size)).trans (h.old b hb)⟩
def dR.drew (w:World):dR w w.drew:=⟨rfl,rfl,rfl,aH _,fun _ _=>rfl⟩
def Step.grow {w':World}(hw:dR x.w w')(himm:∀b,x.I b->b<x.w.heap.size):Step x ⟨w',x.I,x.β⟩:=
 ⟨hw.os,hw.tape,hw.output,hw.size,fun _ h=>h,fun b hb=>hw.old b (himm b hb),fun _ _ h=>h,fun b hb _=>hw.old b hb,fun _ h=>.inl h,fun _ _ h=>.inl h⟩
def ie.grow {f:Nat->Option cr}{w':World}(h:ie ν x f)(hw:dR x.w w'):ie ν ⟨w',x.I,x.β⟩ f:=
 ⟨fun l blk b base tot h1 h2=>⟨(h.own l blk b base tot h1 h2).1,(h.own l blk b base tot h1 h2).2.mono (Step.grow hw h.imm).le (hw.old b (h.fV l b base tot h2))⟩,
  h.inj,fun b hb=>cz (h.imm b hb) hw.size,fun l b base tot hb=>cz (h.fV l b base tot hb) hw.size,uC (Step.grow hw h.imm).le h.gd⟩
def fL (β:Nat->Option (Nat×Nat×Nat))(L:Nat)(p:Nat×Nat×Nat):Nat->Option (Nat×Nat×Nat):=fun l=>if l=L then some p else β l
def oW (f:Nat->Option cr)(L:Nat)(b:Option cr):Nat->Option cr:=fun l=>if l=L then b else f l
def Gl {w':World}{L n base tot:Nat}(hw:dR x.w w')(hn:x.w.heap.size<=n)(hL:x.β L=none)(himm:∀b,x.I b->b<x.w.heap.size):
  Step x ⟨w',x.I,fL x.β L (n,base,tot)⟩:=by
 refine⟨hw.os,hw.tape,hw.output,hw.size,fun _ h=>h,fun b hb=>hw.old b (himm b hb),fun l p hp=>?_,fun b hb _=>hw.old b hb,fun _ h=>.inl h,fun l p hp=>?_⟩
 .grind [fL]
 grind [fL]
def adZ {f:Nat->Option cr}{w':World}{L n base tot:Nat}{blk:cr}(h:ie ν x f)(hw:dR x.w w')(hn:x.w.heap.size<=n)(hnw:n<w'.heap.size)(hL:x.β L=none)
  (hb:rq ν ⟨w',x.I,fL x.β L (n,base,tot)⟩ n base tot blk):ie ν ⟨w',x.I,fL x.β L (n,base,tot)⟩ (oW f L (some blk)):=by
 have hle:=(Gl (base:=base) (tot:=tot) hw hn hL h.imm).le;refine⟨fun l blk' b base' tot' h1 h2=>?_,fun l l' b base' tot' base'' tot'' h1 h1' h2 h2'=>?_,fun b hb=>cz (h.imm b hb) hw.size,fun l b base' tot' h2=>?_,uC hle h.gd⟩
 .by_cases e:l=L
  .subst e;simp only[fL,ba,bq,eO]at h2;simp only[oW,ba,bq]at h1;obtain⟨rfl,rfl,rfl⟩:=h2;subst h1;exact⟨fun hI=>by have:=h.imm _ hI;omega,hb⟩
  .simp only[fL,e,aZ]at h2;simp only[oW,e,aZ]at h1;obtain⟨a1,a2⟩:=h.own l blk' b base' tot' h1 h2;exact⟨a1,a2.mono hle (hw.old b (h.fV l b base' tot' h2))⟩
 .by_cases e:l=L<;>by_cases e':l'=L
  .exact e.trans e'.symm
  .simp only[fL,e,ba,bq,eO]at h2;simp only[fL,e',aZ]at h2';have:=h.fV l' b base'' tot'' h2';obtain⟨h2,_,_⟩:=h2;omega
  .simp only[fL,e',ba,bq,eO]at h2';simp only[fL,e,aZ]at h2;have:=h.fV l b base' tot' h2;obtain⟨h2',_,_⟩:=h2';omega
  .simp only[fL,e,aZ]at h2;simp only[fL,e',aZ]at h2';simp only[oW,e,aZ]at h1;simp only[oW,e',aZ]at h1';exact h.inj l l' b base' tot' base'' tot'' h1 h1' h2 h2'
 .by_cases e:l=L
  .simp only[fL,e,ba,bq,eO]at h2;obtain⟨h2,_,_⟩:=h2;show b<w'.heap.size;omega
  .simp only[fL,e,aZ]at h2;exact cz (h.fV l b base' tot' h2) hw.size
variable {P:Program} {w:World}
def rA {t:TypeId}(h:P.cellsOf t≠0):∃i,P.info? t=some i/\i.size=P.cellsOf t:=by
 unfold Program.cellsOf at h⊢;cases hi:P.info? t with
 |none=>simp[hi]at h
 |some i=>exact⟨i,rfl,aI⟩
def eM {t:TypeId}(h:P.cellsOf t≠0):(sizeOf t).run P w=.ok (P.cellsOf t) w:=by
 obtain⟨i,hi,hs⟩:=rA h;simp[sizeOf,typeInfo,hi,hs]
def yo {t:TypeId}(h:(P.underlying t).isNone=false):(isAgg t).run P w=.ok (cY P t) w:=by
 cases hu:P.underlying t with
 |none=>simp[hu]at h
 |some d=>unfold isAgg cY;rw[Sem.run_bind,run_underlying hu w];simp only[hu,Result.andThen];cases d<;>rfl
theorem Addr.Ci (b o n:Nat):(⟨b,o,none⟩:Addr).add n=⟨b,o+n,none⟩:=by unfold Addr.add;split<;>simp_all
end
end
section
variable [df]
section
variable {ν:List (Nat×Nat)} {x:X} {f:Nat->Option cr} {P:Program}
mutual
theorem pK:∀(v:Value) (d:D),gY v=some d->RD ν x v d
 | .bool b,d,h=>by simp[gY]at h;subst h;exact .bool b
 | .int k n,d,h=>by simp[gY]at h;subst h;exact .int k n
 | .string ⟨⟨s⟩⟩,d,h=>by
  simp only[gY]at h;split at h
  .rename_i hs;simp only[bq]at h;subst h;exact .str s (by simpa[maxLen,ByteArray.size]using hs)
  .cases h
 | .pointer none,d,h=>by simp[gY]at h;subst h;exact .nilp
 | .slice none 0 0,d,h=>by simp[gY]at h;subst h;exact .bg
 | .nilFunc,d,h=>by simp[gY]at h;subst h;exact .nilf
 | .agg ⟨cs⟩,d,h=>by
  simp only[gY]at h;split at h
  .rename_i hone;cases hc:vX cs with
   |none=>simp[hc]at h
   |some ds=>
    simp[hc]at h;subst h;obtain⟨hl,hr⟩:=w9 cs ds hc;refine .agg ⟨cs⟩ ds (by simpa using hl) (fun i hi=>?_) (fun i hi=>by simpa using hr i hi);have:=uf cs hone i ae;simpa using this
  .cases h
 | .float _ _,d,h=>by simp[gY]at h
 | .complex _ _ _,d,h=>by simp[gY]at h
 | .pointer (some _),d,h=>by simp[gY]at h
 | .slice (some _) _ _,d,h=>by simp[gY]at h
 | .slice none (_+1) _,d,h=>by simp[gY]at h
 | .slice none 0 (_+1),d,h=>by simp[gY]at h
 | .map _,d,h=>by simp[gY]at h
 | .chan _,d,h=>by simp[gY]at h
 | .func _ _ _,d,h=>by simp[gY]at h
 | .iface _ _,d,h=>by simp[gY]at h
 | .nilIface,d,h=>by simp[gY]at h
 | .tuple _,d,h=>by simp[gY]at h
theorem w9:∀(vs:List Value) (ds:List D),vX vs=some ds->vs.length=ds.length/\∀i,i<ds.length->RD ν x (vs.getD i undef) (ds.getD i .any)
 |[],ds,h=>by simp[vX]at h;subst h;simp
 |v::r,ds,h=>by
  simp only[vX]at h;split at h
  .rename_i d ds' h1 h2;simp only[bq]at h;subst h;have a:=pK v d h1;obtain⟨b1,b2⟩:=w9 r ds' h2;refine⟨by simp[b1],fun i hi=>?_⟩;cases i with
   |zero=>simpa using a
   |succ i=>simpa using b2 i (by simpa using hi)
  .cases h
theorem uf:∀(vs:List Value),yO vs=true->∀i,i<vs.length->(vs.getD i undef).oneCell'=true
 |[],_,i,hi=>by simp at hi
 |v::r,h,i,hi=>by
  simp only[yO,bM]at h;cases i with
  |zero=>simp;cases v<;>simp_all[Value.oneCell']
  |succ i=>simpa using uf r h.2 i (by simpa using hi)
end
def GN (ν:List (Nat×Nat))(x:X)(f:Nat->Option cr)(L:Nat)(d:D)(r:Result Next):Prop:=
 ∃v x',(r=.ok (.value v) x'.w\/r=.ok .skip x'.w/\v=undef)/\Step x x'/\RD ν x' v d/\ie ν x' f/\∀l,l≠L->x'.β l=x.β l
def bZ {L:Nat}{d:D}{v:Value}{r:Result Next}(hs:ie ν x f)(hr:r=.ok (.value v) x.w)(hd:RD ν x v d):GN ν x f L d r:=
 ⟨v,x,.inl hr,.refl x,hd,hs,fun _ _=>rfl⟩
def BI (C:CC)(defs:List (Option Nat))(J:Src->cA)(ev:Operand->Value)(x:X)(os:List Operand):Prop:=
 ∀o,o∈os->∀s,C.src defs o=some s->(J s).ok=true->RD C.ν x (ev o) (J s).d
def RD.kU {v:Value}{b:Bool}(h:RD ν x v (.bool b)):v=.bool b:=by cases h;rfl
def RD.eH {v:Value}{k:IntKind}{n:Int}(h:RD ν x v (.int k n)):v=.int k n:=by cases h;rfl
def RD.jU {v:Value}{s:List UInt8}(h:RD ν x v (.str s)):v=.string ⟨⟨s⟩⟩/\s.length<=maxLen:=by cases h;exact⟨rfl,‹_›⟩
def RD.pick {b:Bool}{u v:Value}{d e:D}(h1:b=true->RD ν x u d)(h2:b=false->RD ν x v e):RD ν x (if b then u else v) (D.pick b d e):=by
 cases b
 .have:=h2 rfl;simp only[gP,aZ];cases d<;>cases e<;>simp only[D.pick,cond_false]<;>exact this
 .have:=h1 rfl;simp only[ba];cases d<;>cases e<;>simp only[D.pick,cond_true]<;>exact this
def M5 {op:BinOp}{t:TypeId}{k k':IntKind}{a b:Int}(w:World)(hb:l8 op (.int k a) (.int k' b)):
  ∃v,(binOp op t (.int k a) (.int k' b)).run P w=.ok v w/\RD ν x v (nj op (.int k a) (.int k' b)):=by
 cases op<;>simp only[l8]at hb<;>simp only[binOp,nj,ne_eq]
 case shl=>exact⟨_,by simp[Op.shift,show ¬b<0 by omega],.int _ _⟩
 case shr=>exact⟨_,by simp[Op.shift,show ¬b<0 by omega],.int _ _⟩
 case quo=>obtain⟨rfl,hb⟩:=hb;exact⟨_,by simp[Op.intDiv,hb],.int _ _⟩
 case rem=>obtain⟨rfl,hb⟩:=hb;exact⟨_,by simp[Op.intDiv,hb],.int _ _⟩
 case and=>subst hb;exact⟨_,by simp[Op.intBits],.int _ _⟩
 case or=>subst hb;exact⟨_,by simp[Op.intBits],.int _ _⟩
 case xor=>subst hb;exact⟨_,by simp[Op.intBits],.int _ _⟩
 case andNot=>subst hb;exact⟨_,by simp[Op.intBits],.int _ _⟩
 case add=>subst hb;exact⟨_,by simp[Op.intArith],.int _ _⟩
 case sub=>subst hb;exact⟨_,by simp[Op.intArith],.int _ _⟩
 case mul=>subst hb;exact⟨_,by simp[Op.intArith],.int _ _⟩
 case eql=>subst hb;exact⟨_,by simp[Op.intCmp],.bool _⟩
 case neq=>subst hb;exact⟨_,by simp[Op.intCmp],.bool _⟩
 case lss=>subst hb;exact⟨_,by simp[Op.intCmp],.bool _⟩
 case leq=>subst hb;exact⟨_,by simp[Op.intCmp],.bool _⟩
 case gtr=>subst hb;exact⟨_,by simp[Op.intCmp],.bool _⟩
 case geq=>subst hb;exact⟨_,by simp[Op.intCmp],.bool _⟩
def Jg (a b:List UInt8):(⟨⟨a⟩⟩:ByteArray)++⟨⟨b⟩⟩=⟨⟨a++b⟩⟩:=by
 have h:((⟨⟨a⟩⟩:ByteArray)++⟨⟨b⟩⟩).data=(⟨a++b⟩:Array UInt8):=by
  rw[ByteArray.data_append];simp
 exact ak ByteArray.mk h
def M6 {op:BinOp}{t:TypeId}{a b:List UInt8}(w:World)(hb:l8 op (.str a) (.str b)):
  ∃v,(binOp op t (.string ⟨⟨a⟩⟩) (.string ⟨⟨b⟩⟩)).run P w=.ok v w/\RD ν x v (nj op (.str a) (.str b)):=by
 have hs:∀l:List UInt8,(⟨⟨l⟩⟩:ByteArray).size=l.length:=fun _=>rfl
 cases op<;>simp only[l8]at hb<;>simp only[binOp,nj]
 case add=>
  refine⟨.string ⟨⟨a++b⟩⟩, ?_,.str _ (by simp[maxLen];omega)⟩;have:¬(((⟨⟨a⟩⟩:ByteArray).size+(⟨⟨b⟩⟩:ByteArray).size:Nat):Int)>IntKind.i64.max:=by
   rw[hs,hs];simp only[IntKind.max,IntKind.signed,IntKind.bits,ba];omega
  simp only[Op.stringOp,this,aZ,Sem.run_pure,Jg]
 all_goals
  refine⟨_,by simp only[Op.stringOp,Sem.run_pure];rfl, ?_⟩;simp only[ByteArray.toList_eq];exact .bool _
def oM (op:BinOp)(t:TypeId)(p q:Operand){u v:Value}(h:(∀cs,u≠.agg cs)/\u≠.nilIface)(w:World):(eqGuard op t p q u v).run P w=.ok () w:=by
 obtain⟨h1,h2⟩:=h;unfold eqGuard;cases op<;>simp<;>(split<;>first|rfl|simp_all)
def gn {α:Type}(l:List α)(o n:Nat)(d:α)(j:Nat)(hj:j<n):((l.drop o).take n).getD j d=l.getD (o+j) d:=by
 grind
def kv {α:Type}(l:List α)(o n:Nat)(h:o+n<=l.length):((l.drop o).take n).length=n:=by
 simp;omega
theorem cS (cs:Array Value)(i:Nat)(d:Value):cs.toList.getD i d=cs.getD i d:=by
 simp[List.getD,Array.getD];split<;>simp_all
def sq {t:TypeId}{cs:Array Value}{ds:List D}{off n:Nat}{ag:Bool}(w:World)(hv:RD ν x (.agg cs) (.agg ds))(ht:P.cellsOf t≠0)(hu:(P.underlying t).isNone=false)
  (hn:n=P.cellsOf t) (hag:ag=cY P t) (hle:off+n<=ds.length) (h1:ag=false->n=1):
  ∃v,(part t cs off).run P w=.ok v w/\RD ν x v (cut ds off n ag):=by
 cases hv with
 |agg _ _ hl hone h=>
  unfold part;rw[Sem.run_bind,yo hu];subst hag;cases hb:cY P t
  .have hn1:=h1 (by rw[hb]);have hlt:off<cs.size:=ae;refine⟨cs.getD off undef, ?_, ?_⟩
   .simp[Result.andThen,Array.getElem?_eq_getElem hlt,Array.getD,hlt]
   .simp only[cut,cond_false];exact h off ae
  .refine⟨.agg (cs.extract off (off+n)), ?_, ?_⟩
   .simp[Result.andThen,eM ht,hn]
   .simp only[cut,cond_true];refine .agg _ _ ?_ ?_ ?_
    .simp;omega
    .intro i hi;simp at hi;have:=hone (off+i) ae;rw[<-this];congr 1;simp[Array.getD,show off+i<cs.size by omega,show i<min (off+n) cs.size-off by omega]
    .intro i hi;simp at hi;rw[gn _ _ _ _ _ ae];have:=h (off+i) ae;have e:(cs.extract off (off+n)).getD i undef=cs.getD (off+i) undef:=by
      simp[Array.getD,show off+i<cs.size by omega,show i<min (off+n) cs.size-off by omega]
     rw[e];exact this
end
end
section
variable [df]
section
variable {x:X} {f:Nat->Option cr} {C:CC} {defs:List (Option Nat)} {J:Src->cA} {ev:Operand->Value} {Y:Ctx} {m:List (Nat×cr)} {L:Nat}
def jt {os':List Operand}(hρ:BI C defs J ev x os'):∀(os:List Operand) (ss:List Src),(∀o∈os,o∈os')->C.yv defs os=some ss->Bj J ss->
  os.length=ss.length/\(j7 J ss).length=os.length/\∀i,i<(j7 J ss).length->RD C.ν x ((os.map ev).getD i undef) ((j7 J ss).getD i .any)
 |[],ss,_,h,_=>by simp[CC.yv]at h;subst h;simp[j7]
 |o::r,ss,hm,h,hk=>by
  simp only[CC.yv]at h;split at h
  .rename_i a l h1 h2;simp only[bq]at h;subst h;simp only[Bj]at hk;obtain⟨b1,b2,b3⟩:=jt hρ r l (fun o ho=>hm o (.tail _ ho)) h2 hk.2;refine⟨by simp[b1],by simp[j7,b2],fun i hi=>?_⟩;cases i with
   |zero=>simpa[j7]using hρ o (hm o (.head _)) a h1 hk.1
   |succ i=>simpa[j7]using b3 i (by simpa[j7]using hi)
  .cases h
def E0 (off:Nat):∀(new:List Value) (st:Nat) (acc:Array Value),off+st+new.length<=acc.size->
  ((new.zipIdx st).foldl (fun cs (c,j)=>cs.setIfInBounds (off+j) c) acc).size=acc.size/\
  ∀q,((new.zipIdx st).foldl (fun cs (c,j)=>cs.setIfInBounds (off+j) c) acc)[q]? =if off+st<=q/\q<off+st+new.length then new[q-(off+st)]? else acc[q]?
 |[],st,acc,_=>⟨aI,fun q=>dk⟩
 |c::r,st,acc,hb=>by
  simp only[aM]at hb;obtain⟨h1,h2⟩:=E0 off r (st+1) (acc.setIfInBounds (off+st) c) dk;refine⟨by simpa[List.zipIdx_cons]using h1,fun q=>?_⟩;rw[List.zipIdx_cons,List.foldl_cons,h2 q]
  grind
def uR {os':List Operand}(hρ:BI C defs J ev x os')(place:Nat->Option (Nat×Nat))(len:Nat):∀(ps:List (Nat×Operand)) (ss:List (Nat×Nat×Src)),
  (∀p∈ps,p.2∈os')->C.parts defs place ps=some ss->HE J len ss->∀(cs:Array Value) (ds:List D),cs.size=len->RD C.ν x (.agg cs) (.agg ds)->
  ∃cs',Instr.fill place cs (ps.map fun(i,o)=>(i,ev o))=some cs'/\RD C.ν x (.agg cs') (.agg (EV J ds ss))
 |[],ss,_,h,_,cs,ds,_,hr=>by simp[CC.parts]at h;subst h;exact⟨cs,by simp[Instr.fill],by simpa[EV]using hr⟩
 |(i,o)::r,ss,hm,h,hk,cs,ds,hlen,hr=>by
  simp only[CC.parts]at h;split at h
  .rename_i off n s l h1 h2 h3;split at h
   .cases h
   rename_i hn0;simp only[bq]at h;subst h;simp only[HE]at hk;obtain⟨k1,k2,k3,k4⟩:=hk;have hn:0<n:=ae;have hv:=hρ o (hm _ (.head _)) s h2 k1;obtain⟨c1,c2⟩:=hv.cells ae;have hsz:(ev o).cells.size=n:=ae;cases hr with
   |agg _ _ hl hone hh=>
   let cs1:Array Value:=((ev o).cells.toList.zipIdx 0).foldl (fun cs (c,j)=>cs.setIfInBounds (off+j) c) cs
   have harr:(ev o).cells.zipIdx.foldl (fun cs (c,j)=>cs.setIfInBounds (off+j) c) cs=cs1:=by
    rw[<-Array.foldl_toList];simp[cs1]
   have hcs1:=harr;obtain⟨hsz1,hgq⟩:=E0 off (ev o).cells.toList 0 cs dk;have hget:∀q,q<cs.size->cs1.getD q undef=if q<off then cs.getD q undef else if q<off+n then(ev o).cells.getD (q-off) undef else cs.getD q undef:=by
    intro q hq;have:=hgq q;rw[<-cS,<-cS cs,<-cS (ev o).cells];simp only[List.getD,Array.getElem?_toList];rw[show cs1[q]? =_ from this];simp only[Array.length_toList,hsz,Nat.add_zero];by_cases q1:q<off
    .rw[aC q1,ar ae]
    .rw[ar q1];by_cases q2:q<off+n
     .rw[aC q2,aC ae];simp
     .rw[ar q2,ar ae]
   have hsz1:cs1.size=cs.size:=hsz1;have hdlen:(over ds off (J s).d.cells).length=ds.length:=by simp[over];omega
   have hdget:∀q,q<ds.length->(over ds off (J s).d.cells).getD q .any=if q<off then ds.getD q .any else if q<off+n then(J s).d.cells.getD (q-off) .any else ds.getD q .any:=by
    intro q hq;simp only[over,List.getD,List.getElem?_append,eF];by_cases q1:q<off
    .rw[aC ae,aC q1];simp[List.getElem?_take,q1]
    .rw[ar ae,ar q1,show q-min off ds.length=q-off by omega];by_cases q2:q<off+n
     .rw[aC q2,aC ae]
     .rw[ar q2,ar ae];simp only[List.getElem?_drop];congr 3;omega
   have hr1:RD C.ν x (.agg cs1) (.agg (over ds off (J s).d.cells)):=by
    refine .agg _ _ ae (fun q hq=>?_) (fun q hq=>?_)
    .rw[hdlen]at hq;rw[hget q ae];split
     .exact hone q hq
     .split
      .exact(c2 (q-off) ae).1
      .exact hone q hq
    .rw[hdlen]at hq;rw[hget q ae,hdget q hq];split
     .exact hh q hq
     .split
      .exact(c2 (q-off) ae).2
      .exact hh q hq
   obtain⟨cs',g1,g2⟩:=uR hρ place len r l (fun p hp=>hm p (.tail _ hp)) h3 k4 cs1 _ ae hr1;refine⟨cs', ?_,by simpa[EV]using g2⟩;simp only[List.map_cons,Instr.fill,h1];rw[ar (by simp[hsz];omega),hcs1];exact g1
  .cases h
end
section
variable {ν:List (Nat×Nat)} {x:X} {P:Program}
def kr:∀(ks:List CK) (ds:List D),ix ks ds->ds.length=ks.length
 |[],[],_=>rfl
 |[],_::_,h=>by simp[ix]at h
 |_::_,[],h=>by simp[ix]at h
 |c::r,d::ds,h=>by have:=kr r ds (by simp[ix]at h;exact h.2);simp;omega
def mf:∀(a b:List CK) (ds:List D),ix (a++b) ds->ix a (ds.take a.length)/\ix b (ds.drop a.length)
 |[],b,ds,h=>by simpa[ix]using h
 |c::r,b,[],h=>by simp[ix]at h
 |c::r,b,d::ds,h=>by
  simp only[fY,ix]at h;obtain⟨h1,h2⟩:=mf r b ds h.2
  grind [ix]
def xF:∀(n:Nat) (ds es:List D),ds.length=es.length->jm ds es=(jm (ds.take n) (es.take n)&&jm (ds.drop n) (es.drop n))
 |0,ds,es,_=>by simp[jm]
 |n+1,[],[],_=>by simp[jm]
 |n+1,[],_::_,h=>by simp at h
 |n+1,_::_,[],h=>by simp at h
 |n+1,d::ds,e::es,h=>by
  simp only[jm,List.take_succ_cons,List.drop_succ_cons];rw[xF n ds es (by simpa using h),Bool.and_assoc]
def LO {c:CK}{d:D}(h:c.fits d):d.cells=[d]/\d.isAgg=false:=by
 cases c<;>cases d<;>simp_all[CK.fits,D.cells,D.isAgg]
def oN {c:CK}{d:D}(h:ix [c] d.cells)(ha:d.isAgg=false):c.fits d:=by
 cases d<;>simp_all[D.cells,D.isAgg,ix]
def vZ {ds:List D}{off n:Nat}{ag:Bool}{ks:List CK}(h:ix ks ((ds.drop off).take n))(hn:ag=false->n=1)(hle:off+n<=ds.length):
  (cut ds off n ag).cells=(ds.drop off).take n/\(cut ds off n ag).isAgg=ag:=by
 cases ag
 .have:=hn rfl;subst this;have hlt:off<ds.length:=ae;have e:(ds.drop off).take 1=[ds.getD off .any]:=by
   rw[kS hlt];simp[List.getD,hlt,List.take]
  rw[e]at h⊢;cases ks with
  |nil=>simp[ix]at h
  |cons c r=>
   simp only[ix]at h;exact LO h.1
 .exact⟨rfl,rfl⟩
def Oj (ν:List (Nat×Nat))(x:X)(P:Program)(n:Nat)(t:TypeId)(ks:List CK):Prop:=
 ∀u v d e (w:World),RD ν x u d->RD ν x v e->d.isAgg=cY P t->e.isAgg=cY P t->ix ks d.cells->ix ks e.cells->
  (Op.equalIn n t u v).run P w=.ok (jm d.cells e.cells) w
def Fb {n:Nat}{t:TypeId}{ks:List CK}(h:iP P n t=some ks)(ha:cY P t=false):ks.length=1:=by
 cases n with
 |zero=>simp[iP]at h
 |succ n=>
  grind [iP,cY]
def yW (n depth:Nat)(ih:∀t ks,iP P depth t=some ks->Oj ν x P n t ks)(xs ys:Array Value)(ds es:List D)(h1:RD ν x (.agg xs) (.agg ds))(h2:RD ν x (.agg ys) (.agg es))(w:World):
  ∀(fs:List Field) (off:Nat) (ks:List CK),oT P (fun t=>iP P depth t) off fs=some ks->off<=ds.length->off<=es.length->ix ks (ds.drop off)->ix ks (es.drop off)->
  (Op.eqFields n xs ys fs).run P w=.ok (jm (ds.drop off) (es.drop off)) w
 |[],off,ks,hk,_,_,f1,f2=>by
  simp[oT]at hk;subst hk;have a:=kr _ _ f1;have b:=kr _ _ f2;have a':ds.drop off=[]:=nO a;have b':es.drop off=[]:=nO b;rw[a',b'];simp[Op.eqFields,jm]
 |f::fs,off,ks,hk,l1,l2,f1,f2=>by
  simp only[oT]at hk;split at hk
  .cases hk
  .rename_i hne;have hname:f.name≠ "_" :=fun e=>hne (.inl e)
   have hoff:f.offset=off:=by
    rcases Nat.decEq f.offset off with h|h
    .exact absurd (.inr h) hne
    .exact h
   split at hk
   .rename_i a b ha hb;split at hk
    .rename_i hlen;obtain⟨hlen,hnz,hund⟩:=hlen;simp only[bq]at hk;subst hk;obtain⟨fa1,fb1⟩:=mf a b _ f1;obtain⟨fa2,fb2⟩:=mf a b _ f2;have la:=kr _ _ f1;have lb:=kr _ _ f2;simp only[kT,bH]at la lb;have hag:cY P f.type=false->P.cellsOf f.type=1:=fun e=>by rw[<-hlen];exact Fb ha e
     obtain⟨u,r1,r2⟩:=sq (P:=P) (off:=off) (n:=P.cellsOf f.type) (ag:=cY P f.type) w h1 ae hund rfl rfl ae hag;obtain⟨v,s1,s2⟩:=sq (P:=P) (off:=off) (n:=P.cellsOf f.type) (ag:=cY P f.type) w h2 ae hund rfl rfl ae hag;rw[hlen]at fa1 fa2 fb1 fb2;obtain⟨c1,c2⟩:=vZ (ag:=cY P f.type) fa1 hag ae;obtain⟨d1,d2⟩:=vZ (ag:=cY P f.type) fa2 hag ae;have he:=ih f.type a ha u v _ _ w r2 s2 c2 d2 (by rw[c1];exact fa1) (by rw[d1];exact fa2);rw[List.drop_drop]at fb1 fb2;have hrest:=yW n depth ih xs ys ds es h1 h2 w fs (off+P.cellsOf f.type) b hb ae ae fb1 fb2;rw[xF (P.cellsOf f.type) (ds.drop off) (es.drop off) dk];simp only[Op.eqFields,hname,ne_eq,not_false_eq_true,ba,Sem.run_bind,hoff,r1,s1,he,Result.andThen_ok,Sem.run_ite,hrest];rw[c1,d1,List.drop_drop,List.drop_drop];cases jm ((ds.drop off).take (P.cellsOf f.type)) ((es.drop off).take (P.cellsOf f.type))<;>simp
    .cases hk
   .cases hk
def BR (n:Nat)(e:TypeId)(l:List CK)(ih:Oj ν x P n e l)(hc:l.length=P.cellsOf e)(hnz:l.length≠0)(hund:(P.underlying e).isNone=false)(hag:cY P e=false->P.cellsOf e=1)
  (xs ys:Array Value) (ds es:List D) (h1:RD ν x (.agg xs) (.agg ds)) (h2:RD ν x (.agg ys) (.agg es)) (w:World):
  ∀(len j:Nat),j*P.cellsOf e<=ds.length->j*P.cellsOf e<=es.length->ix (List.replicate len l).flatten (ds.drop (j*P.cellsOf e))->ix (List.replicate len l).flatten (es.drop (j*P.cellsOf e))->
  (Op.eqItems n e (P.cellsOf e) xs ys (List.range' j len)).run P w=.ok (jm (ds.drop (j*P.cellsOf e)) (es.drop (j*P.cellsOf e))) w
 |0,j,_,_,f1,f2=>by
  have a:=kr _ _ f1;have b:=kr _ _ f2;have a':ds.drop (j*P.cellsOf e)=[]:=nO (by simpa using a);have b':es.drop (j*P.cellsOf e)=[]:=nO (by simpa using b);rw[a',b'];simp[Op.eqItems,jm]
 |len+1,j,l1,l2,f1,f2=>by
  simp only[List.replicate_succ,List.flatten_cons]at f1 f2;obtain⟨fa1,fb1⟩:=mf _ _ _ f1;obtain⟨fa2,fb2⟩:=mf _ _ _ f2;have la:=kr _ _ f1;have lb:=kr _ _ f2;simp only[kT,bH]at la lb;have hj:(j+1)*P.cellsOf e=j*P.cellsOf e+P.cellsOf e:=Nat.succ_mul _ _;obtain⟨u,r1,r2⟩:=sq (P:=P) (off:=j*P.cellsOf e) (n:=P.cellsOf e) (ag:=cY P e) w h1 ae hund rfl rfl ae hag;obtain⟨v,s1,s2⟩:=sq (P:=P) (off:=j*P.cellsOf e) (n:=P.cellsOf e) (ag:=cY P e) w h2 ae hund rfl rfl ae hag;rw[hc]at fa1 fa2 fb1 fb2;obtain⟨c1,c2⟩:=vZ (ag:=cY P e) fa1 hag ae;obtain⟨d1,d2⟩:=vZ (ag:=cY P e) fa2 hag ae;have he:=ih u v _ _ w r2 s2 c2 d2 (by rw[c1];exact fa1) (by rw[d1];exact fa2);rw[List.drop_drop,<-hj]at fb1 fb2;have hrest:=BR n e l ih hc hnz hund hag xs ys ds es h1 h2 w len (j+1) ae ae fb1 fb2;rw[xF (P.cellsOf e) (ds.drop (j*P.cellsOf e)) (es.drop (j*P.cellsOf e)) dk];simp only[List.range'_succ,Op.eqItems,Sem.run_bind,r1,s1,he,Result.andThen_ok,Sem.run_ite,hrest];rw[c1,d1,List.drop_drop,List.drop_drop,<-hj];cases jm ((ds.drop (j*P.cellsOf e)).take (P.cellsOf e)) ((es.drop (j*P.cellsOf e)).take (P.cellsOf e))<;>simp
def uq:∀(depth:Nat) (t:TypeId) (ks:List CK),iP P depth t=some ks->∀n,depth<=n->Oj ν x P n t ks
 |0,t,ks,h,_,_=>by simp[iP]at h
 |depth+1,t,ks,h,n,hn=>by
  obtain⟨n,rfl⟩:∃k,n=k+1:=⟨n-1,ae⟩
  intro u v d e w r1 r2 a1 a2 f1 f2;simp only[iP]at h;split at h
  .rename_i hu;simp only[bq]at h;subst h;have hag:cY P t=false:=by simp[cY,hu]
   rw[hag]at a1 a2;have g1:=oN f1 a1;have g2:=oN f2 a2;cases d<;>simp only[CK.fits]at g1;cases e<;>simp only[CK.fits]at g2;rw[r1.kU,r2.kU,run_equalIn_bool w n t _ _ hu];simp[D.cells,jm,eqD]
  .rename_i k hu;simp only[bq]at h;subst h;have hag:cY P t=false:=by simp[cY,hu]
   rw[hag]at a1 a2;have g1:=oN f1 a1;have g2:=oN f2 a2;cases d<;>simp only[CK.fits]at g1;cases e<;>simp only[CK.fits]at g2;subst g1;subst g2;rw[r1.eH,r2.eH,run_equalIn_int w n t _ _ _ _ hu];simp[D.cells,jm,eqD]
  .rename_i hu;simp only[bq]at h;subst h;have hag:cY P t=false:=by simp[cY,hu]
   rw[hag]at a1 a2;have g1:=oN f1 a1;have g2:=oN f2 a2;cases d<;>simp only[CK.fits]at g1;cases e<;>simp only[CK.fits]at g2;rw[r1.jU.1,r2.jU.1,run_equalIn_string w n t _ _ hu];simp[D.cells,jm,eqD,ByteArray.toList_eq]
  .rename_i fs hu;split at h
   .cases h
   .rename_i hst;have hag:cY P t=true:=by simp[cY,hu]
    rw[hag]at a1 a2;cases d<;>simp only[D.isAgg,gP]at a1;cases e<;>simp only[D.isAgg,gP]at a2;have hf:P.fieldsOf t=fs:=by simp[Program.fieldsOf,hu]
    cases r1 with
    |agg xs _ p1 p2 p3=>
     cases r2 with
     |agg ys _ q1 q2 q3=>
      rw[run_equalIn_struct w n t xs ys (by rw[hf];exact hu) (by simpa using hst),hf];have:=yW (ν:=ν) (x:=x) n depth (fun t ks hk=>uq depth t ks hk n ae) xs ys _ _ (.agg xs _ p1 p2 p3) (.agg ys _ q1 q2 q3) w fs.toList 0 ks h aI aI (by simpa[D.cells]using f1) (by simpa[D.cells]using f2);simpa[D.cells]using this
  .rename_i len e' hu;split at h
   .rename_i l hl;split at h
    .rename_i hc;obtain⟨hc,hnz,hund⟩:=hc;simp only[bq]at h;subst h;have hag:cY P t=true:=by simp[cY,hu]
     rw[hag]at a1 a2;cases d<;>simp only[D.isAgg,gP]at a1;cases e<;>simp only[D.isAgg,gP]at a2;obtain⟨i,hi,_⟩:=rA (P:=P) (t:=e') ae;cases r1 with
     |agg xs _ p1 p2 p3=>
      cases r2 with
      |agg ys _ q1 q2 q3=>
       rw[run_equalIn_array w n xs ys hu hi,List.range_eq_range'];have:=BR (ν:=ν) (x:=x) n e' l (uq depth e' l hl n ae) hc hnz hund (fun e=>by rw[<-hc];exact Fb hl e) xs ys _ _ (.agg xs _ p1 p2 p3) (.agg ys _ q1 q2 q3) w len 0 aI aI (by simpa[D.cells]using f1) (by simpa[D.cells]using f2);simpa[D.cells]using this
    .cases h
   .cases h
  .cases h
end
end
section
variable [df]
section
variable {x:X} {f:Nat->Option cr} {C:CC} {defs:List (Option Nat)} {J:Src->cA} {ev:Operand->Value} {Y:Ctx} {m:List (Nat×cr)} {L:Nat}
def IL {t:TypeId}{z:List D}(h:vC C.P t=some (.agg z)):∃i cs,C.P.info? t=some i/\i.zero=some (.agg cs)/\RD C.ν x (.agg cs) (.agg z):=by
 unfold vC at h;cases hi:C.P.info? t with
 |none=>simp[hi]at h
 |some i=>
  cases hz:i.zero with
  |none=>simp[hi,hz]at h
  |some v=>
   simp only[hi,hz,Option.bind_some]at h;have hr:RD C.ν x v (.agg z):=pK v _ h;cases v with
   |agg cs=>exact⟨i,cs,rfl,hz,hr⟩
   |_=>cases hr
def sy {t:TypeId}{z:D}(h:vC C.P t=some z):∃i v,C.P.info? t=some i/\i.zero=some v/\RD C.ν x v z:=by
 unfold vC at h;cases hi:C.P.info? t with
 |none=>simp[hi]at h
 |some i=>
  cases hz:i.zero with
  |none=>simp[hi,hz]at h
  |some v=>
   grind [pK]
def B8 {P:Program}(w:World):∀(fs:List Field),(∀f∈fs,(P.info? f.type).isSome=true)->
  (fs.mapM (fun f=>(do pure (f.offset,<-sizeOf f.type):Sem (Nat×Nat)))).run P w=.ok (fs.map fun f=>(f.offset,P.cellsOf f.type)) w
 |[],_=>aI
 |f::r,h=>by
  have hf:=h f aI;cases hi:P.info? f.type with
  |none=>simp[hi]at hf
  |some i=>
   have hr:=B8 w r (fun g hg=>h g (by simp[hg]));simp only[List.mapM_cons,Sem.run_bind,run_sizeOf w hi,Result.andThen_ok,Sem.run_pure,hr];simp
def RW {op:BinOp}{d e:D}(h:l8 op d e):(∃k a k' b,d=.int k a/\e=.int k' b)\/(∃a b,d=.str a/\e=.str b):=by
 cases d<;>cases e<;>first|exact .inl ⟨_,_,_,_,rfl,rfl⟩|exact .inr ⟨_,_,rfl,rfl⟩|(simp only[l8]at h)
def rO {op:BinOp}{t u:TypeId}{p q:Operand}{o:Oper}{v:Value}{w:World}{P:Program}(ho:o.op=.binOp op t p q u)(hg:(eqGuard op t p q (ev p) (ev q)).run P w=.ok () w)
  (hr:(binOp op t (ev p) (ev q)).run P w=.ok v w):(execOp ev o).run P w=.ok (.value v) w:=by
 simp[execOp,ho,hg,hr]
def Jf (op:BinOp)(hop:op=.eql\/op=.neq)(t:TypeId)(xs ys:Array Value)(b:Bool)(w:World)(P:Program)(h:(Op.equalIn 10000 t (.agg xs) (.agg ys)).run P w=.ok b w):
  (binOp op t (.agg xs) (.agg ys)).run P w=.ok (.bool (if op=.neq then !b else b)) w:=by
 rcases hop with rfl|rfl
 .rw[run_eql_struct,h];rfl
 .rw[run_neq_struct,h];rfl
def aiW {a:Option Addr}{len cap k:Nat}{es:List D}{l h:Nat}(hv:RD C.ν x (.slice a len cap) (.sl k es))(h1:l<=h)(h2:h<=es.length):
  RD C.ν x (.slice (if cap=l then a else a.map (·.add (l*k))) (h-l) (cap-l)) (.sl k ((es.take h).drop l)):=by
 cases hv with
 |sl _ b off _ _ _ _ c hlen ha hcap hm hk hn hc hone hh=>
  have hl':((es.take h).drop l).length=h-l:=dk;have hg:∀i,i<h-l->((es.take h).drop l).getD i .any=es.getD (l+i) .any:=by
   intro i hi;simp[List.getD,List.getElem?_drop,List.getElem?_take,show l+i<h by omega]
  refine .sl _ b (off+l*k) (h-l) (cap-l) k _ (fun i j=>c (l+i) j) hl'.symm ?_ ae ae (fun i hi=>?_) (fun i hi=>?_) (fun i j hi hj=>?_) (fun i j hi hj=>hone _ _ ae hj) (fun i j hi hj=>?_)
  .grind [Addr.Ci]
  .rw[hg i hi];exact hk _ ae
  .rw[hg i hi];exact hn _ ae
  .have:=hc (l+i) j ae hj;rw[<-this];congr 2;rw[Nat.add_mul];omega
  .rw[hg i hi];exact hh _ _ ae hj
def aiV {a:Option Addr}{len cap k:Nat}{es:List D}{h m:Nat}(hv:RD C.ν x (.slice a len cap) (.sl k es))(h1:h<=m)(h2:m<=es.length):
  RD C.ν x (.slice (if m=0 then a else a.map (·.add (0*k))) h m) (.sl k (es.take h)):=by
 cases hv with
 |sl _ b off _ _ _ _ c hlen ha hcap hm hk hn hc hone hh=>
  have hl':(es.take h).length=h:=dk;have hg:∀i,i<h->(es.take h).getD i .any=es.getD i .any:=by
   intro i hi;simp[List.getD,List.getElem?_take,hi]
  refine .sl _ b off h m k _ (fun i j=>c i j) hl'.symm ?_ h1 ae (fun i hi=>?_) (fun i hi=>?_) (fun i j hi hj=>hc i j ae hj) (fun i j hi hj=>hone _ _ ae hj) (fun i j hi hj=>?_)
  .by_cases he:h=0
   .left;exact nO ae
   .right;rw[ar ae];rcases ha with rfl|⟨rfl,hI⟩
    .simp at h2;omega
    .exact⟨by simp[Addr.add],hI⟩
  .rw[hg i hi];exact hk _ ae
  .rw[hg i hi];exact hn _ ae
  .rw[hg i hi];exact hh _ _ ae hj
def adE {v:Value}{L' k i n:Nat}(hv:RD C.ν x v (.own L' k i n)):
  ∃a cap,v=.slice a n cap/\n<=cap/\∀h m,h<=m->m<=n->RD C.ν x (.slice (if m=0 then a else a.map (·.add (0*k))) h m) (.own L' k i h):=by
 cases hv with
 |own _ _ _ _ b base tot cap a hβ ha hcap hm ht=>
  refine⟨some a,cap,rfl,hcap,fun h m h1 h2=>?_⟩;have e:(if m=0 then some a else(some a).map (·.add (0*k)))=some a:=by simp[Addr.add]
  rw[e];exact .own L' k i h b base tot m a hβ (fun hp=>ha ae) h1 ae ae
 |own0 _ _ _ a=>
  refine⟨a,0,rfl,aH _,fun h m h1 h2=>?_⟩;obtain rfl:m=0:=ae;obtain rfl:h=0:=ae;exact .own0 _ _ _ _
def xE {vh vm:Value}{kh km:IntKind}{h m:Int}{len cap:Nat}(e1:vh=.int kh h)(e2:vm=.int km m)(h0:0<=h)(h1:h<=m)(h2:m<=cap):
  (Instr.sliceBounds true len cap none (some vh) (some vm)).run C.P x.w=.ok (0,h.toNat,m.toNat) x.w:=by
 subst e1;subst e2;simp[Instr.sliceBounds,run_sliceBound x.w km m cap .slice3Acap ae h2,run_sliceBound x.w kh h m.toNat .slice3B h0 ae]
def adF {v:Value}{L' k i n:Nat}(hv:RD C.ν x v (.own L' k i n)):
  ∃a cap,v=.slice a n cap/\n<=cap/\∀l h,l<=h->h<=n->RD C.ν x (.slice (if cap=l then a else a.map (·.add (l*k))) (h-l) (cap-l)) (.own L' k (i+l) (h-l)):=by
 cases hv with
 |own _ _ _ _ b base tot cap a hβ ha hcap hm ht=>
  refine⟨some a,cap,rfl,hcap,fun l h h1 h2=>?_⟩;have e:(if cap=l then some a else(some a).map (·.add (l*k)))=some (if cap=l then a else a.add (l*k)):=by split<;>rfl
  rw[e];refine .own L' k (i+l) (h-l) b base tot (cap-l) _ hβ (fun hp=>?_) ae ae ae
  grind [Addr.Ci]
 |own0 _ _ _ a=>
  refine⟨a,0,rfl,aH _,fun l h h1 h2=>?_⟩;obtain rfl:h=0:=ae;obtain rfl:l=0:=ae;exact .own0 _ _ _ _
def Hf (s:List UInt8)(l h:Nat):(⟨⟨s⟩⟩:ByteArray).extract l h=⟨⟨(s.take h).drop l⟩⟩:=by
 rw[Lib.extract_eq,List.drop_take]
def FF {lo:Option Operand}(h:C.opt defs lo=some none):lo=none:=by
 cases lo with
 |none=>rfl
 |some o=>simp[CC.opt]at h
def FG {lo:Option Operand}{s:Src}(h:C.opt defs lo=some (some s)):∃o,lo=some o/\C.src defs o=some s:=by
 cases lo with
 |none=>simp[CC.opt]at h
 |some o=>simp only[CC.opt,eg,bq]at h;obtain⟨a,h1,rfl⟩:=h;exact⟨o,rfl,h1⟩
def sQ {os':List Operand}(hρ:BI C defs J ev x os'){lo hi:Option Operand}(hml:∀o,lo=some o->o∈os')(hmh:∀o,hi=some o->o∈os'){l h:Option Src}(hl:C.opt defs lo=some l)(hh:C.opt defs hi=some h)(k1:XP J l)(k2:XP J h)(isS:Bool)(len cap:Nat)
  (hcap:isS=false->len=cap) (hle:len<=cap) (b2:sP (dO J h) len) (b1:sP (dO J l) (fV (dO J h) len)):
  (Instr.sliceBounds isS len cap (lo.map ev) (hi.map ev) none).run C.P x.w=.ok (fV (dO J l) 0,fV (dO J h) len,cap) x.w/\fV (dO J l) 0<=fV (dO J h) len/\fV (dO J h) len<=len:=by
 have hh':∃code,(match hi.map ev with|some v=>Instr.sliceBound v cap code|none=>pure len:Sem Nat).run C.P x.w=.ok (fV (dO J h) len) x.w/\fV (dO J h) len<=len/\code=(if isS then BoundsCode.sliceAcap else .sliceAlen):=by
  cases h with
  |none=>
   obtain rfl:=FF hh;exact⟨_,by simp[dO,fV],by simp[dO,fV],rfl⟩
  |some s=>
   obtain⟨o,rfl,h1⟩:=FG hh;have hv:=hρ o (hmh o rfl) s  h1 k2;simp only[dO]at b2;cases hd:(J s).d<;>simp only[hd,sP]at b2;rename_i kk n;rw[hd]at hv;refine⟨_, ?_, ?_,rfl⟩
   .simp only[Option.map_some,dO,fV,hd];rw[hv.eH,run_sliceBound x.w kk n cap _ b2.1 ae]
   .simp only[dO,fV,hd];omega
 obtain⟨code,g1,g2,rfl⟩:=hh';generalize fV (dO J h) len=B at*
 have hl':(match lo.map ev with|some v=>Instr.sliceBound v B .sliceB|none=>pure 0:Sem Nat).run C.P x.w=.ok (fV (dO J l) 0) x.w/\fV (dO J l) 0<=B:=by
  cases l with
  |none=>
   obtain rfl:=FF hl;exact⟨by simp[dO,fV],by simp[dO,fV]⟩
  |some s=>
   obtain⟨o,rfl,h1⟩:=FG hl;have hv:=hρ o (hml o rfl) s  h1 k1;simp only[dO]at b1;cases hd:(J s).d<;>simp only[hd,sP]at b1;rename_i kk n;rw[hd]at hv;refine⟨?_, ?_⟩
   .simp only[Option.map_some,dO,fV,hd];rw[hv.eH,run_sliceBound x.w kk n _ _ b1.1 b1.2]
   .simp only[dO,fV,hd];omega
 obtain⟨f1,f2⟩:=hl';refine⟨?_,f2,g2⟩;cases lo with
 |none=>
  simp only[Option.map_none,Sem.run_pure,Result.ok.injEq,cb]at f1;cases hi with
  |none=>
   simp only[Option.map_none,Sem.run_pure,Result.ok.injEq,cb]at g1;rw[<-f1,<-g1];simp[Instr.sliceBounds]
  |some v=>
   simp only[Option.map_some]at g1;rw[<-f1];simp[Instr.sliceBounds,g1]
 |some u=>
  have f1':(Instr.sliceBound (ev u) B .sliceB).run C.P x.w=.ok (fV (dO J l) 0) x.w:=f1;clear f1;generalize fV (dO J l) 0=A at*
  cases hi with
  |none=>
   simp only[Option.map_none,Sem.run_pure,Result.ok.injEq,cb]at g1;subst g1;simp only[Instr.sliceBounds,Option.map_some,Option.map_none,Sem.run_bind,Sem.run_pure,Result.andThen_ok,Option.isSome_none,gP,aZ,f1']
  |some v=>
   have g1':(Instr.sliceBound (ev v) cap (if isS then BoundsCode.sliceAcap else .sliceAlen)).run C.P x.w=.ok B x.w:=g1;simp only[Instr.sliceBounds,Option.map_some,Option.map_none,Sem.run_bind,Sem.run_pure,Result.andThen_ok,Option.isSome_none,gP,aZ,g1',f1']
def JA {P:Program}{t:TypeId}{ks:List CK}{d:Nat}(ha:cY P t=false)(h1:∀k,P.underlying t=some (.int k)->False)(h2:P.underlying t=some .string->False)(h:iP P (d+1) t=some ks):P.underlying t=some .bool:=by
 grind [cY,iP]
def Cw {P:Program}{t:TypeId}{d:Nat}(h:P.underlying t=some .bool):iP P (d+1) t=some [.b]:=by
 unfold iP;simp[h]
def ZP {P:Program}(w:World){t:TypeId}{ps rs:Array TypeId}{vr:Bool}(h:P.underlying t=some (.func ps rs vr)):(binOp .eql t .nilFunc .nilFunc).run P w=.ok (.bool true) w/\
  ∀f a c,(binOp .eql t (.func f a c) .nilFunc).run P w=.ok (.bool false) w:=by
 have h1:∀d:Nat,(Op.equalIn (d+1) t .nilFunc .nilFunc).run P w=.ok true w:=fun d=>by simp[Op.equalIn,run_underlying h]
 have h2:∀(d:Nat) f a c,(Op.equalIn (d+1) t (.func f a c) .nilFunc).run P w=.ok false w:=fun d f a c=>by simp[Op.equalIn,run_underlying h]
 constructor
 .simp only[binOp];simp[Op.equal,Op.maxDepth,h1 9999]
 .intro f a c;simp only[binOp];simp[Op.equal,Op.maxDepth,h2 9999]
def TU {ν:List (Nat×Nat)}{x:X}(s:List UInt8):∀(es:List MapEntry) (ds:List D) (i:Nat),mpOK ds->2*es.length=ds.length->(∀j,j<ds.length->RD ν x (mpV es j) (ds.getD j .any))->
  ∃r,Instr.findNow .string (.string ⟨⟨s⟩⟩) es i=some r/\((∃j v,r=some (j,v)/\RD ν x v (G8 s ds))\/(r=none/\G8 s ds=.nilf))
 |[],[],_,_,_,_=>⟨none,rfl,.inr ⟨rfl,rfl⟩⟩
 |e::es,.str a::f::r,i,ho,hl,h=>by
  have h0:=h 0 aI;have h1:=h 1 aI;simp only[mpV,gL,List.getD_cons_succ,Nat.zero_div,List.getElem?_cons_zero]at h0 h1;have hk:e.key=.string ⟨⟨a⟩⟩:=by
   have h2:RD ν x e.key (.str a):=h0;exact h2.jU.1
  have h1':RD ν x e.val f:=h1;simp only[Instr.findNow,hk,Instr.sameNow,G8];by_cases ha:a=s
  .subst ha;rw[((MapKept.bytes_beq _ _).2 rfl:((⟨⟨a⟩⟩:ByteArray)==⟨⟨a⟩⟩)=true),beq_self_eq_true,cond_true];exact⟨_,rfl,.inl ⟨_,_,rfl,h1'⟩⟩
  .have e1:((⟨⟨s⟩⟩:ByteArray)==⟨⟨a⟩⟩)=false:=by
    cases hb:((⟨⟨s⟩⟩:ByteArray)==⟨⟨a⟩⟩)with
    |false=>rfl
    |true=>
     have hh:=(MapKept.bytes_beq _ _).1 hb;injection hh with hh
     injection hh with hh
     exact absurd hh.symm ha
   have e2:(a==s)=false:=beq_eq_false_iff_ne.2 ha;rw[e1,e2];simp only[cond_false];refine TU s es r (i+1) ho (by simp only[aM]at hl;omega) fun j hj=>?_
   have:=h (j+2) (by simp only[aM];omega);have e3:mpV (e::es) (j+2)=mpV es j:=by
    unfold mpV;rw[show(j+2) /2=j/2+1 by omega,List.getElem?_cons_succ,show(j+2)%2=j%2 by omega]
   rw[e3]at this;simpa using this
 |_::_,[],_,_,hl,_=>by simp at hl
 |[],_::_,_,_,hl,_=>by simp at hl
 |_::es,[_],_,ho,hl,_=>by simp at hl;omega
def adC {o:Oper}{i:bd}(hcst:∀d,J (.c d)=⟨true,d⟩)(hsm:∀fid n,dI C.ν fid=some n->n<1000000)(hc:C.op defs o=some i)(hp:i.pure=true)(hρ:BI C defs J ev x o.op.operands.toList)(hob:i.ff Y J m)(hs:ie C.ν x f):
  GN C.ν x f L (i.val Y J m L) ((execOp ev o).run C.P x.w):=by
 cases ho:o.op with
 |move p=>
  simp only[CC.op,ho,eg]at hc;obtain⟨s,h1,rfl⟩:=hc;exact bZ hs (by simp[execOp,ho]) (hρ p (by simp[ho,Op.operands,Call.operands]) s h1 hob)
 |assign p=>
  simp only[CC.op,ho,eg]at hc;obtain⟨s,h1,rfl⟩:=hc;exact bZ hs (by simp[execOp,ho]) (hρ p (by simp[ho,Op.operands,Call.operands]) s h1 hob)
 |pick c a b=>
  simp only[CC.op,ho]at hc;split at hc
  .rename_i c' a' b' h1 h2 h3;simp only[bq]at hc;subst hc;obtain⟨k1,k2⟩:=hob;have hcv:=hρ c (by simp[ho,Op.operands,Call.operands]) c' h1 k1;cases hd:(J c').d<;>simp only[hd]at k2;rename_i t;rw[hd]at hcv;simp only[bd.val,hd];refine bZ hs ?_ (RD.pick (fun ht=>hρ a (by simp[ho,Op.operands,Call.operands]) a' h2 (k2.1 ht)) (fun ht=>hρ b (by simp[ho,Op.operands,Call.operands]) b' h3 (k2.2 ht)));simp[execOp,ho,hcv.kU,asBool]
  .cases hc
 |build t ps=>
  simp only[CC.op,ho]at hc;split at hc
  .rename_i z fs hz hu;split at hc;rotate_left
   .cases hc
   rename_i hplaces;simp only[eg]at hc;obtain⟨ss,h1,rfl⟩:=hc;obtain⟨ti,cs,hi,hzv,hr⟩:=IL (x:=x) hz;have hsz:cs.size=z.length:=by cases hr with|agg _ _ hl _ _=>exact hl
   obtain⟨cs',g1,g2⟩:=uR hρ _ z.length ps.toList ss (fun p hp=>by simp only[ho,Op.operands,eG];exact⟨p,hp,rfl⟩) h1 hob cs z hsz hr;refine bZ hs ?_ g2;have hpl:=B8 (P:=C.P) x.w fs.toList (fun f hf=>(List.all_eq_true.1 hplaces) f hf);have hpl':(fs.mapM (fun f:Field=>(do pure (f.offset,<-sizeOf f.type):Sem (Nat×Nat)))).run C.P x.w=.ok (fs.map fun f:Field=>(f.offset,C.P.cellsOf f.type)) x.w:=by
    rw[Array.mapM_eq_mapM_toList,Sem.run_map,hpl];simp[Result.andThen,List.map_toArray];apply Array.ext';simp
   have hg:Instr.fill (fun i:Nat=>(fs.map fun f:Field=>(f.offset,C.P.cellsOf f.type))[i]?) cs (ps.map fun(i,o)=>(i,ev o)).toList=some cs':=by
    have e:(fun i:Nat=>(fs.map fun f:Field=>(f.offset,C.P.cellsOf f.type))[i]?)=(fun i=>(fs[i]?).map fun f:Field=>(f.offset,C.P.cellsOf f.type)):=by
     funext q;simp
    rw[e,Array.toList_map];exact g1
   simp only[execOp,ho,Instr.build,Sem.run_bind,zeroValue,run_typeInfo x.w hi,Result.andThen_ok,hzv,Sem.run_pure,run_underlying hu,hpl',Value.cells,hg]
  .rename_i z n e hz hu;split at hc
   .cases hc
   rename_i hce;simp only[eg]at hc;obtain⟨ss,h1,rfl⟩:=hc;obtain⟨ti,cs,hi,hzv,hr⟩:=IL (x:=x) hz;have hsz:cs.size=z.length:=by cases hr with|agg _ _ hl _ _=>exact hl
   obtain⟨cs',g1,g2⟩:=uR hρ _ z.length ps.toList ss (fun p hp=>by simp only[ho,Op.operands,eG];exact⟨p,hp,rfl⟩) h1 hob cs z hsz hr;refine bZ hs ?_ g2;have hg:Instr.fill (fun i=>some (i*C.P.cellsOf e,C.P.cellsOf e)) cs (ps.map fun(i,o)=>(i,ev o)).toList=some cs':=by
    rw[Array.toList_map];exact g1
   simp only[execOp,ho,Instr.build,Sem.run_bind,zeroValue,run_typeInfo x.w hi,Result.andThen_ok,hzv,Sem.run_pure,run_underlying hu,eM hce,Value.cells,hg]
  .cases hc
 |nilCheck p=>
  simp only[CC.op,ho,eg]at hc;obtain⟨s,h1,rfl⟩:=hc;obtain⟨k1,k2⟩:=hob;have hv:=hρ p (by simp[ho,Op.operands,Call.operands]) s h1 k1;refine bZ hs ?_ hv;cases hd:(J s).d<;>simp only[hd]at k2<;>rw[hd]at hv<;>generalize he:ev p=vp at hv<;>cases hv<;>simp[execOp,ho,he]
 |binOp op t p q u=>
  simp only[CC.op,ho]at hc;split at hc
  .rename_i a b h1 h2;have hbin:∀(i':bd),i'=.bin op a b->i'.ff Y J m->GN C.ν x f L (i'.val Y J m L) ((execOp ev o).run C.P x.w):=by
    rintro _ rfl ⟨k1,k2,k3⟩;have hv:=hρ p (by simp[ho,Op.operands,Call.operands]) a h1 k1;have hw:=hρ q (by simp[ho,Op.operands,Call.operands]) b h2 k2;rcases RW k3 with⟨kk,n,kk',n',e1,e2⟩|⟨s,s',e1,e2⟩
    .rw[e1]at hv k3;rw[e2]at hw k3;obtain⟨v,r1,r2⟩:=M5 (ν:=C.ν) (x:=x) (P:=C.P) (t:=t) x.w k3;refine bZ hs (rO ho (oM _ _ _ _ (by rw[hv.eH];exact⟨aI,aI⟩) _) (by rw[hv.eH,hw.eH];exact r1)) ?_;simp only[bd.val,e1,e2];exact r2
    .rw[e1]at hv k3;rw[e2]at hw k3;obtain⟨v,r1,r2⟩:=M6 (ν:=C.ν) (x:=x) (P:=C.P) (t:=t) x.w k3;refine bZ hs (rO ho (oM _ _ _ _ (by rw[hv.jU.1];exact⟨aI,aI⟩) _) (by rw[hv.jU.1,hw.jU.1];exact r1)) ?_;simp only[bd.val,e1,e2];exact r2
   split at hc
   .simp only[bq]at hc;exact hc▸hbin _ rfl (hc▸hob)
   .simp only[bq]at hc;exact hc▸hbin _ rfl (hc▸hob)
   .rename_i hu1 hu2;split at hc
    .cases hc
    .rename_i hge;have hge':C.P.eqGuardType C.P.depth t=false:=by simpa using hge
     have heq:∀(neg:Bool) (ks:List CK),iP C.P 30 t=some ks->op=(if neg then .neq else .eql)->i=.eqA neg (cY C.P t) ks a b->GN C.ν x f L (i.val Y J m L) ((execOp ev o).run C.P x.w):=by
      rintro neg ks hks hop rfl;obtain⟨k1,k2,a1,a2,f1,f2⟩:=hob;have hv:=hρ p (by simp[ho,Op.operands,Call.operands]) a h1 k1;have hw:=hρ q (by simp[ho,Op.operands,Call.operands]) b h2 k2;have hrun:=uq (ν:=C.ν) (x:=x) (P:=C.P) 30 t ks hks 10000 ae (ev p) (ev q) _ _ x.w hv hw a1 a2 f1 f2;cases hag:cY C.P t
      .rw[hag]at a1 a2

       have hub:C.P.underlying t=some .bool:=JA (d:=29) hag hu1 hu2 hks;rw[Cw (d:=29) hub,bq]at hks;subst hks;have g1:=oN f1 a1;have g2:=oN f2 a2;cases e1:(J a).d<;>simp only[e1,CK.fits]at g1;cases e2:(J b).d<;>simp only[e2,CK.fits]at g2;rename_i b1 b2;rw[e1]at hv;rw[e2]at hw;refine bZ hs (v:=.bool (if neg then !(b1==b2)else b1==b2)) (rO ho (oM _ _ _ _ (by rw[hv.kU];exact⟨aI,aI⟩) _) ?_) ?_
       .rw[hv.kU,hw.kU,hop];cases neg
        .simpa using run_eql_bool x.w t b1 b2 hub
        .simpa using run_neq_bool x.w t b1 b2 hub
       .simp only[bd.val,e1,e2,D.cells,jm,eqD,kn];cases neg<;>exact .bool _
      .rw[hag]at a1 a2;cases e1:(J a).d<;>simp only[e1,D.isAgg,gP]at a1;cases e2:(J b).d<;>simp only[e2,D.isAgg,gP]at a2;rw[e1]at hv;rw[e2]at hw;rw[e1,e2]at hrun;generalize hep:ev p=vp at*
       generalize heq':ev q=vq at*
       cases hv with
       |agg xs _ p1 p2 p3=>
        cases hw with
        |agg ys _ q1 q2 q3=>
         refine bZ hs (rO (v:=.bool (if op=.neq then !(jm (D.agg _).cells (D.agg _).cells)else jm (D.agg _).cells (D.agg _).cells)) ho (by rw[hep,heq'];exact run_eqGuard_agg x.w _ _ _ _ _ _ hge') (by rw[hep,heq'];exact Jf op (by cases neg<;>simp[hop]) t xs ys _ x.w C.P hrun)) ?_;simp only[bd.val,e1,e2];cases neg<;>simp only[hop,ba,aZ,gP,cond_true,cond_false,reduceCtorEq]<;>exact .bool _
     split at hc
     .rename_i ks hks;simp only[bq]at hc;exact heq false ks hks rfl hc.symm
     .rename_i ks hks;simp only[bq]at hc;exact heq true ks hks rfl hc.symm
     .split at hc
      .rename_i hf;simp only[bq]at hc;subst hc;obtain⟨k1,k2⟩:=hob;have hv:=hρ p (by simp[ho,Op.operands,Call.operands]) a h1 k1;have hq:ev q=.nilFunc:=by
        have:=hρ q (by simp[ho,Op.operands,Call.operands]) (.c .nilf) h2 (by rw[hcst]);rw[hcst]at this;generalize ev q=vq at this;cases this;rfl
       cases hd:(J a).d<;>simp only[hd]at k2<;>rw[hd]at hv<;>generalize hep:ev p=vp at hv<;>cases hv<;>simp only[bd.val,hd];all_goals first
        |exact bZ hs (rO ho (oM _ _ _ _ (by rw[hep];exact⟨aI,aI⟩) _) (by rw[hep,hq];first|exact(ZP _ hf).1|exact(ZP _ hf).2 _ _ _)) (.bool _)
        |(exfalso;omega)
      .simp only[bq]at hc;subst hc;simp[bd.pure]at hp
      .cases hc
     .cases hc
  .cases hc
 |unOp op t p=>
  simp only[CC.op,ho,eg]at hc;obtain⟨s,h1,rfl⟩:=hc;obtain⟨k1,k2⟩:=hob;have hv:=hρ p (by simp[ho,Op.operands,Call.operands]) s h1 k1;cases op<;>cases hd:(J s).d<;>simp only[hd]at k2<;>rw[hd]at hv<;>simp only[bd.val,hd]
  .exact bZ hs (by simp[execOp,ho,hv.eH,Op.unary,Op.intArith]) (.int _ _)
  .exact bZ hs (by simp[execOp,ho,hv.kU,Op.unary]) (.bool _)
 |convert s d p=>
  simp only[CC.op,ho]at hc;split at hc
  .rename_i ks k a hu1 hu2 h1;simp only[bq]at hc;subst hc;obtain⟨k1,k2⟩:=hob;have hv:=hρ p (by simp[ho,Op.operands,Call.operands]) a h1 k1;cases hd:(J a).d<;>simp only[hd]at k2;rw[hd]at hv;simp only[bd.val,hd];exact bZ hs (by simp[execOp,ho,hv.eH,convert,run_underlying hu1,run_underlying hu2,Conv.intToInt]) (.int _ _)
  .rename_i ks a hu1 hu2 h1;simp only[bq]at hc;subst hc;obtain⟨k1,k2⟩:=hob;have hv:=hρ p (by simp[ho,Op.operands,Call.operands]) a h1 k1;cases hd:(J a).d<;>simp only[hd]at k2;rename_i n;rw[hd]at hv;simp only[bd.val,hd];refine bZ hs (v:=.string (Utf8.encode n)) (by simp[execOp,ho,hv.eH,convert,run_underlying hu1,run_underlying hu2,Conv.intToString]) ?_;have h4:=encode_size_le n;have e:Utf8.encode n=⟨⟨abI n⟩⟩:=rfl;rw[e];refine .str _ ?_;have:(abI n).length=(Utf8.encode n).size:=rfl;simp only[maxLen];omega
  .split at hc
   .simp only[bq]at hc;subst hc;simp[bd.pure]at hp
   .cases hc
  .split at hc
   .simp only[bq]at hc;subst hc;simp[bd.pure]at hp
   .cases hc
  .cases hc
 |makeFunc fn first caps=>
  cases fn with
  |func fid=>
   simp only[CC.op,ho]at hc;split at hc
   .rename_i n l h1 h2;split at hc
    .rename_i hfe;simp only[bq]at hc;subst hc;obtain⟨e1,e2,e3⟩:=jt hρ caps.toList l (fun o' ho'=>by simp only[ho,Op.operands,Array.toList_append,List.mem_append];exact .inr ho') h2 hob;have hf0:first=#[]:=by simpa using hfe
     refine bZ hs (v:=.func (.func fid) #[] (caps.map ev)) (by simp[execOp,ho,Instr.makeFunc,hf0]) ?_;refine .fn fid n _ _ h1 (by simp[e2]) (fun i hi=>?_);have:=e3 i hi;rw[<-cS,Array.toList_map];exact this
    .split at hc
     .rename_i hle;simp only[eg]at hc;obtain⟨l1,hl1,rfl⟩:=hc;obtain⟨e1,e2,e3⟩:=jt hρ first.toList l1 (fun o' ho'=>by simp only[ho,Op.operands,Array.toList_append,List.mem_append];exact .inl ho') hl1 hob
      obtain⟨_,q2,_⟩:=jt hρ caps.toList l (fun o' ho'=>by simp only[ho,Op.operands,Array.toList_append,List.mem_append];exact .inr ho') h2 (by rw[List.isEmpty_iff.1 hle];trivial);have hf0:caps=#[]:=by
       rw[List.isEmpty_iff.1 hle]at q2;exact Array.eq_empty_of_size_eq_zero (by simpa[j7]using q2.symm)
      refine bZ hs (v:=.func (.func fid) (first.map ev) #[]) (by simp[execOp,ho,Instr.makeFunc,hf0]) ?_;refine .fV fid n _ _ h1 (by simp[e2]) (fun i hi=>?_);have:=e3 i hi;rw[<-cS,Array.toList_map];exact this
     .cases hc
   .cases hc
  |_=>simp[CC.op,ho]at hc
 |lookup t p q ok=>
  cases ok with
  |true=>simp[CC.op,ho]at hc
  |false=>
   simp only[CC.op,ho]at hc;split at hc
   .rename_i a b kt et h1 h2 hu;split at hc
    .rename_i hk hz;simp only[bq]at hc;subst hc;obtain⟨k1,k2,k3⟩:=hob;have hv:=hρ p (by simp[ho,Op.operands,Call.operands]) a h1 k1;have hw:=hρ q (by simp[ho,Op.operands,Call.operands]) b h2 k2;cases hd:(J a).d<;>simp only[hd]at k3;cases hd2:(J b).d<;>simp only[hd2]at k3;obtain⟨rfl,k4⟩:=k3;rename_i es s;rw[hd]at hv;rw[hd2]at hw;obtain⟨e1,e2⟩:=hw.jU;simp only[bd.val,hd,hd2];generalize hep:ev p=vp at hv;cases hv with
     |fn _ _ _ _ hν=>exact absurd (hsm _ _ hν) ae
     |fV _ _ _ _ hν=>exact absurd (hsm _ _ hν) ae
     |mp r' ents cl _ hI hh hl h=>
      obtain⟨r,f1,f2⟩:=TU (ν:=C.ν) (x:=x) s ents.toList es 0 k4 (by simpa using hl) h;obtain⟨ti,zv,hi,hzv,hr⟩:=sy (x:=x) hz;rcases f2 with⟨j,v,rfl,f3⟩|⟨rfl,f3⟩
      .refine bZ hs (v:=v) ?_ f3;simp[execOp,ho,hep,e1,Instr.lookup,run_underlying hu,MapKept.run_getObj_map hh,MapKept.run_checkKey hk (show MapKept.IsKey .string (.string ⟨⟨s⟩⟩)from trivial),MapKept.run_findKey hk f1,Result.andThen]
      .rw[f3];refine bZ hs (v:=zv) ?_ hr;simp[execOp,ho,hep,e1,Instr.lookup,run_underlying hu,MapKept.run_getObj_map hh,MapKept.run_checkKey hk (show MapKept.IsKey .string (.string ⟨⟨s⟩⟩)from trivial),MapKept.run_findKey hk f1,Result.andThen,zeroValue,run_typeInfo x.w hi,hzv]
    .cases hc
   .cases hc
 |slice t p lo hi mx=>
  simp only[CC.op,ho]at hc;split at hc
  .rename_i a l h hu h1 hl hh;simp only[bq]at hc;subst hc;obtain⟨k1,k2,k3,k4⟩:=hob;have hv:=hρ p (by simp[ho,Op.operands,Call.operands]) a h1 k1;cases hd:(J a).d<;>simp only[hd]at k4;rename_i s;rw[hd]at hv;obtain⟨e1,e2⟩:=hv.jU;obtain⟨b1,b2,b3⟩:=sQ hρ (by rintro _ rfl;simp[ho,Op.operands]) (by rintro _ rfl;simp[ho,Op.operands]) hl hh k2 k3 false s.length s.length (fun _=>rfl) (aH _) k4.1 k4.2;simp only[bd.val,hd];have hsz:(⟨⟨s⟩⟩:ByteArray).size=s.length:=rfl;refine bZ hs (v:=.string ⟨⟨(s.take (fV (dO J h) s.length)).drop (fV (dO J l) 0)⟩⟩) ?_ (.str _ dk);simp[execOp,ho,e1,Instr.sliceAt,Instr.slice,run_underlying hu,hsz,b1,Hf]
  .rename_i e a l h hu h1 hl hh;split at hc
   .cases hc
   rename_i hce;simp only[bq]at hc;subst hc;obtain⟨k1,k2,k3,k4⟩:=hob;have hv:=hρ p (by simp[ho,Op.operands,Call.operands]) a h1 k1;cases hd:(J a).d<;>simp only[hd]at k4
   ·
    rw[hd]at hv;obtain⟨b1,b2,b3⟩:=sQ hρ (by rintro _ rfl;simp[ho,Op.operands]) (by rintro _ rfl;simp[ho,Op.operands]) hl hh k2 k3 true 0 0 (fun e=>by simp at e) (aH _) k4.1 (by
     have:fV (dO J h) 0=0:=by
      have:=k4.1;cases hdh:dO J h with
      |none=>rfl
      |some d=>rw[hdh]at this;cases d<;>simp_all[sP,fV]
     rw[this];exact k4.2)
    simp only[bd.val,hd];have e0:ev p=.slice none 0 0:=by generalize ev p=vp at hv;cases hv;rfl
    refine bZ hs (v:=.slice none 0 0) ?_ .bg;have z1:fV (dO J l) 0=0:=ae;have z2:fV (dO J h) 0=0:=ae;rw[z1,z2]at b1;simp[execOp,ho,e0,Instr.sliceAt,Instr.slice,run_underlying hu,b1,eM hce]
   .rename_i k es;rw[hd]at hv;simp only[bd.val,hd];generalize hep:ev p=vp at hv;have hv2:=hv;cases hv with
    |sl aa b off len cap _ _ c hlen ha hcap hm hk hn hc' hone hh'=>
     subst hlen;obtain⟨b1,b2,b3⟩:=sQ hρ (by rintro _ rfl;simp[ho,Op.operands]) (by rintro _ rfl;simp[ho,Op.operands]) hl hh k2 k3 true es.length cap (fun e=>by simp at e) hcap k4.2.1 k4.2.2;refine bZ hs (v:=.slice (if cap=fV (dO J l) 0 then aa else aa.map (·.add (fV (dO J l) 0*C.P.cellsOf e))) (fV (dO J h) es.length-fV (dO J l) 0) (cap-fV (dO J l) 0)) ?_ ?_
     .simp[execOp,ho,hep,Instr.sliceAt,Instr.slice,run_underlying hu,b1,eM hce]
     .rw[<-k4.1];exact aiW hv2 b2 b3
   .rename_i L' k i n;rw[hd]at hv;simp only[bd.val,hd];obtain⟨k5,k6,k7⟩:=k4;obtain⟨aa,cap,he,hle0,hr⟩:=adF hv;obtain⟨b1,b2,b3⟩:=sQ hρ (by rintro _ rfl;simp[ho,Op.operands]) (by rintro _ rfl;simp[ho,Op.operands]) hl hh k2 k3 true n cap (fun e=>by simp at e) hle0 k6 k7;refine bZ hs ?_ (hr _ _ b2 b3);simp only[execOp,ho,he,Instr.sliceAt,Instr.slice,run_underlying hu,Sem.run_bind,Result.andThen_ok,Option.map_none,b1,eM hce,Sem.run_pure,k5]
  .rename_i e a h mo hu h1 hl hh;obtain rfl:=FF hl;obtain⟨oh,rfl,hh1⟩:=FG hh;split at hc;rotate_left
   .cases hc
   rename_i ms hms;split at hc
   .cases hc
   rename_i hce;simp only[bq]at hc;subst hc;obtain⟨k1,k2,k3,k4⟩:=hob;have hv:=hρ p (by simp[ho,Op.operands,Call.operands]) a h1 k1;have hvh:=hρ oh (by simp[ho,Op.operands]) h hh1 k2;have hvm:=hρ mo (by simp[ho,Op.operands]) ms hms k3;cases hdh:(J h).d<;>simp only[hdh]at k4;cases hdm:(J ms).d<;>simp only[hdm]at k4;rename_i kh nh km nm;rw[hdh]at hvh;rw[hdm]at hvm;obtain⟨p1,p2,p3⟩:=k4;cases hd:(J a).d<;>simp only[hd]at p3
   ·
    rw[hd]at hv;simp only[bd.val,hd,hdh];have e0:ev p=.slice none 0 0:=by generalize ev p=vp at hv;cases hv;rfl
    have b1:=xE (C:=C) (x:=x) (len:=0) (cap:=0) hvh.eH hvm.eH p1 p2 ae;refine bZ hs (v:=.slice none 0 0) ?_ .bg;have z1:nh.toNat=0:=ae;have z2:nm.toNat=0:=ae;rw[z1,z2]at b1;simp[execOp,ho,e0,Instr.sliceAt,Instr.slice,run_underlying hu,b1,eM hce]
   .rename_i k es;rw[hd]at hv;simp only[bd.val,hd,hdh];generalize hep:ev p=vp at hv;have hv2:=hv;cases hv with
    |sl aa b off len cap _ _ c hlen ha hcap hm hk hn hc' hone hh'=>
     subst hlen;have b1:=xE (C:=C) (x:=x) (len:=es.length) (cap:=cap) hvh.eH hvm.eH p1 p2 ae;refine bZ hs (v:=.slice (if nm.toNat=0 then aa else aa.map (·.add (0*C.P.cellsOf e))) nh.toNat nm.toNat) ?_ ?_
     .simp[execOp,ho,hep,Instr.sliceAt,Instr.slice,run_underlying hu,b1,eM hce]
     .rw[<-p3.1];exact aiV hv2 ae ae
   .rename_i L' k i n;rw[hd]at hv;simp only[bd.val,hd,hdh];obtain⟨k5,k6⟩:=p3;obtain⟨aa,cap,he,hle0,hr⟩:=adE hv;have b1:=xE (C:=C) (x:=x) (len:=n) (cap:=cap) hvh.eH hvm.eH p1 p2 ae;refine bZ hs ?_ (hr nh.toNat nm.toNat ae ae);simp only[execOp,ho,he,Instr.sliceAt,Instr.slice,run_underlying hu,Sem.run_bind,Result.andThen_ok,Option.map_none,Option.map_some,b1,eM hce,Sem.run_pure,k5,Nat.sub_zero]
  .cases hc
 |fieldAddr t p fi=>
  simp only[CC.op,ho]at hc;split at hc
  .rename_i fs a hu h1;split at hc
   .rename_i fl hfl;split at hc
    .cases hc
    rename_i hce;simp only[bq]at hc;subst hc;obtain⟨k1,k2⟩:=hob;have hv:=hρ p (by simp[ho,Op.operands,Call.operands]) a h1 k1;have hrun:∀(b c:Nat),ev p=.pointer (some ⟨b,c,none⟩)->(execOp ev o).run C.P x.w=.ok (.value (.pointer (some ⟨b,c+fl.offset,none⟩))) x.w:=by
     intro b c he;simp[execOp,ho,he,Instr.fieldAt,run_underlying hu,hfl,Instr.sureAddr,fieldPlace,eM hce,hce,Addr.Ci]
    cases hd:(J a).d<;>simp only[hd]at k2
    .rename_i k es i o';rw[hd]at hv;simp only[bd.val,hd];generalize hep:ev p=vp at hv;cases hv with
     |ref b off _ _ _ at_ _ c hI hat hk hn hc' h1' hh'=>
      exact bZ hs (hrun _ _ hep) (.ref b off k i (o'+fl.offset) _ es c hI ae hk hn hc' h1' hh')
    .rename_i l k i o';rw[hd]at hv;simp only[bd.val,hd];generalize hep:ev p=vp at hv;cases hv with
     |ptr _ _ _ _ b base tot at_ hβ hat=>
      exact bZ hs (hrun _ _ hep) (.ptr l k i (o'+fl.offset) b base tot _ hβ ae)
   .cases hc
  .cases hc
 |field t p fi=>
  simp only[CC.op,ho]at hc;split at hc
  .rename_i fs a hu h1;split at hc
   .rename_i fl hfl;split at hc
    .cases hc
    rename_i hce;simp only[bq]at hc;subst hc;obtain⟨k1,k2⟩:=hob;have hv:=hρ p (by simp[ho,Op.operands,Call.operands]) a h1 k1;cases hd:(J a).d<;>simp only[hd]at k2;rename_i ds;rw[hd]at hv;generalize hep:ev p=vp at hv;have hv2:=hv;cases hv with
    |agg cs _ _ _ _=>
     obtain⟨v,r1,r2⟩:=sq (P:=C.P) (t:=fl.type) (off:=fl.offset) (n:=C.P.cellsOf fl.type) (ag:=cY C.P fl.type) x.w hv2 (fun e=>hce (.inl e)) (by cases hn:(C.P.underlying fl.type).isNone with|false=>rfl|true=>exact absurd (.inr hn) hce) rfl rfl k2.1 k2.2;refine bZ hs (v:=v) ?_ (by simp only[bd.val,hd,D.cells];exact r2);simp[execOp,ho,hep,Instr.field,run_underlying hu,hfl,asAgg,r1]
   .cases hc
  .cases hc
 |indexAddr t p q=>
  simp only[CC.op,ho]at hc;split at hc
  .rename_i e a b hu h1 h2;split at hc
   .cases hc
   rename_i hce;simp only[bq]at hc;subst hc;obtain⟨k1,k2,k3⟩:=hob;have hv:=hρ p (by simp[ho,Op.operands,Call.operands]) a h1 k1;have hw:=hρ q (by simp[ho,Op.operands,Call.operands]) b h2 k2;cases hd2:(J b).d<;>cases hd:(J a).d<;>simp only[hd,hd2]at k3
   .rename_i kk n k es;rw[hd]at hv;rw[hd2]at hw;obtain⟨k4,k5,k6⟩:=k3;simp only[bd.val,hd,hd2];generalize hep:ev p=vp at hv;cases hv with
    |sl aa b' off len cap _ _ c hlen ha hcap hm hk hn hc' hone hh'=>
     rcases ha with rfl|⟨rfl,hI⟩
     .simp at k6;omega
     .refine bZ hs (v:=.pointer (some ⟨b',off+n.toNat*C.P.cellsOf e,none⟩)) ?_ ?_
      .simp[execOp,ho,hep,hw.eH,Instr.indexAt,asIntOf,run_underlying hu,hlen,k5,k6,eM hce,Addr.Ci]
      .subst hlen;exact .ref b' off k n.toNat 0 _ es c hI (by rw[k4];omega) hk hn hc' hone hh'
   .rename_i kk n L' k i len;rw[hd]at hv;rw[hd2]at hw;obtain⟨k4,k5,k6⟩:=k3;simp only[bd.val,hd,hd2];generalize hep:ev p=vp at hv;cases hv with
    |own _ _ _ _ b' base tot cap aa hβ ha hcap hm ht=>
     have ha':=ha ae;subst ha';refine bZ hs (v:=.pointer (some ⟨b',base+i*k+n.toNat*C.P.cellsOf e,none⟩)) ?_ ?_
     .simp[execOp,ho,hep,hw.eH,Instr.indexAt,asIntOf,run_underlying hu,k5,k6,eM hce,Addr.Ci]
     .exact .ptr L' k (i+n.toNat) 0 b' base tot _ hβ (by rw[Nat.add_mul,k4];omega)
    |own0=>omega
  .rename_i len e a b hu h1 h2;split at hc
   .cases hc
   rename_i hce;simp only[bq]at hc;subst hc;obtain⟨k1,k2,k3⟩:=hob;have hv:=hρ p (by simp[ho,Op.operands,Call.operands]) a h1 k1;have hw:=hρ q (by simp[ho,Op.operands,Call.operands]) b h2 k2;have hrun:∀(b c:Nat) (kk:IntKind) (n:Int),ev p=.pointer (some ⟨b,c,none⟩)->ev q=.int kk n->0<=n->n<len->(execOp ev o).run C.P x.w=.ok (.value (.pointer (some ⟨b,c+n.toNat*C.P.cellsOf e,none⟩))) x.w:=by
    intro b c kk n he he' g1 g2;simp[execOp,ho,he,he',Instr.indexAt,asIntOf,run_underlying hu,Instr.sureAddr,g1,g2,eM hce,Addr.Ci]
   cases hd2:(J b).d<;>cases hd:(J a).d<;>simp only[hd,hd2]at k3
   .rename_i kk n k es i o';rw[hd]at hv;rw[hd2]at hw;simp only[bd.val,hd,hd2];generalize hep:ev p=vp at hv;cases hv with
    |ref b' off _ _ _ at_ _ c hI hat hk hn hc' h1' hh'=>
     exact bZ hs (hrun _ _ _ _ hep hw.eH k3.1 k3.2) (.ref b' off k i (o'+n.toNat*C.P.cellsOf e) _ es c hI ae hk hn hc' h1' hh')
   .rename_i kk n L' k i o';rw[hd]at hv;rw[hd2]at hw;simp only[bd.val,hd,hd2];generalize hep:ev p=vp at hv;cases hv with
    |ptr _ _ _ _ b' base tot at_ hβ hat=>
     exact bZ hs (hrun _ _ _ _ hep hw.eH k3.1 k3.2) (.ptr L' k i (o'+n.toNat*C.P.cellsOf e) b' base tot _ hβ ae)
  .cases hc
 |index t p q=>
  simp only[CC.op,ho]at hc;split at hc
  .rename_i a b hu h1 h2;simp only[bq]at hc;subst hc;obtain⟨k1,k2,k3⟩:=hob;have hv:=hρ p (by simp[ho,Op.operands,Call.operands]) a h1 k1;have hw:=hρ q (by simp[ho,Op.operands,Call.operands]) b h2 k2;cases hd2:(J b).d<;>cases hd:(J a).d<;>simp only[hd,hd2]at k3;rename_i kk n s;rw[hd]at hv;rw[hd2]at hw;obtain⟨e1,e2⟩:=hv.jU;simp only[bd.val,hd,hd2];have hsz:(⟨⟨s⟩⟩:ByteArray).size=s.length:=rfl;have hlt:n.toNat<s.length:=ae;refine bZ hs (v:=.int .u8 (s.getD n.toNat 0).toNat) ?_ (.int _ _);simp only[execOp,ho,e1,hw.eH,Sem.run_bind,run_index_string x.w t _ kk n hu,hsz];rw[dif_pos k3];simp only[Result.andThen_ok,Sem.run_pure];congr 4;show(((⟨s⟩:Array UInt8)[n.toNat]'hlt)).toNat=_;simp[List.getD,hlt]
  .rename_i len e a b hu h1 h2;split at hc
   .cases hc
   rename_i hce;simp only[bq]at hc;subst hc;obtain⟨k1,k2,k0,k3⟩:=hob;have hv:=hρ p (by simp[ho,Op.operands,Call.operands]) a h1 k1;have hw:=hρ q (by simp[ho,Op.operands,Call.operands]) b h2 k2;cases hd2:(J b).d<;>cases hd:(J a).d<;>simp only[hd,hd2]at k3;rename_i kk n ds;rw[hd]at hv;rw[hd2]at hw;generalize hep:ev p=vp at hv;have hv2:=hv;cases hv with
   |agg cs _ _ _ _=>
    have hb:n.toNat*C.P.cellsOf e+C.P.cellsOf e<=ds.length:=by
     rw[k3.2.2,<-Nat.succ_mul];exact fF _ ae
    obtain⟨v,r1,r2⟩:=sq (P:=C.P) (t:=e) (off:=n.toNat*C.P.cellsOf e) (n:=C.P.cellsOf e) (ag:=cY C.P e) x.w hv2 (fun e=>hce (.inl e)) (by cases hn:(C.P.underlying e).isNone with|false=>rfl|true=>exact absurd (.inr hn) hce) rfl rfl hb k0;refine bZ hs (v:=v) ?_ (by simp only[bd.val,hd,hd2,D.cells];exact r2);simp[execOp,ho,hep,hw.eH,Instr.index,asIntOf,run_underlying hu,k3.1,k3.2.1,eM (fun e=>hce (.inl e)),r1]
  .cases hc
 |extract p n=>
  simp only[CC.op,ho,eg]at hc;obtain⟨s,h1,rfl⟩:=hc;obtain⟨k1,k2⟩:=hob;have hv:=hρ p (by simp[ho,Op.operands,Call.operands]) s h1 k1;cases hd:(J s).d<;>simp only[hd]at k2;rw[hd]at hv;generalize hep:ev p=vp at hv;cases hv with
  |tup cs _ hl hh=>
   have hlt:n<cs.size:=ae;refine bZ hs (v:=cs.getD n undef) ?_ (by simp only[bd.val,hd];exact hh n k2);simp[execOp,ho,hep,Instr.extract,Array.getElem?_eq_getElem hlt,Array.getD,hlt]
 |call c=>
  obtain⟨callee,args,argTypes⟩:=c;cases callee with
  |builtin bu=>
   cases bu with
   |len=>
    simp only[CC.op,ho]at hc;split at hc
    .rename_i p t hargs htys;have hargs':args=#[p]:=by apply Array.ext';simpa using hargs
     have htys':argTypes=#[t]:=by apply Array.ext';simpa using htys
     subst hargs';subst htys';split at hc
     .rename_i a h1 hu;simp only[bq]at hc;subst hc;obtain⟨k1,k2⟩:=hob;have hv:=hρ p (by simp[ho,Op.operands,Call.operands]) a h1 k1;have hrun:∀s,ev p=.string s->(execOp ev o).run C.P x.w=.ok (.value (.int .i64 s.size)) x.w:=by
       intro s he;simp[execOp,ho,resolve,invoke,builtin,Builtin.len_,he,run_underlying hu,goInt]
      cases hd:(J a).d<;>simp only[hd]at k2
      .rw[hd]at hv;simp only[bd.val,hd];exact bZ hs (hrun _ hv.jU.1) (.int _ _)
     .rename_i a e h1 hu;simp only[bq]at hc;subst hc;obtain⟨k1,k2⟩:=hob;have hv:=hρ p (by simp[ho,Op.operands,Call.operands]) a h1 k1;have hrun:∀b n cc,ev p=.slice b n cc->(execOp ev o).run C.P x.w=.ok (.value (.int .i64 n)) x.w:=by
       intro b n cc he;simp[execOp,ho,resolve,invoke,builtin,Builtin.len_,he,run_underlying hu,goInt]
      cases hd:(J a).d<;>simp only[hd]at k2
      .rw[hd]at hv;simp only[bd.val,hd];generalize hep:ev p=vp at hv;cases hv;exact bZ hs (hrun _ _ _ hep) (.int _ _)
      .rw[hd]at hv;simp only[bd.val,hd];generalize hep:ev p=vp at hv;cases hv with
       |sl aa b off len cap _ _ cf hlen ha hcap hm hk hn hc' hone hh'=>
        subst hlen;exact bZ hs (hrun _ _ _ hep) (.int _ _)
      .rw[hd]at hv;simp only[bd.val,hd];generalize hep:ev p=vp at hv;cases hv with
       |own _ _ _ _ b base tot cap aa hβ ha hcap hm ht=>
        exact bZ hs (hrun _ _ _ hep) (.int _ _)
       |own0=>exact bZ hs (hrun _ _ _ hep) (.int _ _)
     .cases hc
    .cases hc
   |min=>
    simp only[CC.op,ho]at hc;split at hc
    .rename_i p q hargs;have hargs':args=#[p,q]:=by apply Array.ext';simpa using hargs
     subst hargs';split at hc
     .rename_i a b h1 h2;simp only[bq]at hc;subst hc;obtain⟨k1,k2,k3⟩:=hob;have hv:=hρ p (by simp[ho,Op.operands,Call.operands]) a h1 k1;have hw:=hρ q (by simp[ho,Op.operands,Call.operands]) b h2 k2;cases hd:(J a).d<;>cases he:(J b).d<;>simp only[hd,he]at k3;rw[hd]at hv;rw[he]at hw;simp only[bd.val,hd,he];refine bZ hs ?_ (.int _ _);simp[execOp,ho,resolve,invoke,builtin,Builtin.min_,Builtin.min2,hv.eH,hw.eH]
     .cases hc
    .cases hc
   |append=>simp only[CC.op,ho]at hc;(repeat' split at hc)<;>simp_all[bd.pure]<;>(subst hc;simp_all[bd.pure])
   |_=>simp[CC.op,ho]at hc
  |value f=>
   cases f with
   |func fid=>simp only[CC.op,ho]at hc;(repeat' split at hc)<;>simp_all[bd.pure]<;>(subst hc;simp_all[bd.pure])
   |tmp t=>simp only[CC.op,ho]at hc;(repeat' split at hc)<;>simp_all[bd.pure]<;>(subst hc;simp_all[bd.pure])
   |_=>simp[CC.op,ho]at hc
  |invoke r n=>simp[CC.op,ho]at hc
 |alloc t=>simp only[CC.op,ho]at hc;(repeat' split at hc)<;>simp_all[bd.pure]<;>(subst hc;simp_all[bd.pure])
 |box t p=>simp only[CC.op,ho]at hc;(repeat' split at hc)<;>simp_all[bd.pure]<;>(subst hc;simp_all[bd.pure])
 |buildSlice t n ps=>simp only[CC.op,ho]at hc;(repeat' split at hc)<;>simp_all[bd.pure]<;>(subst hc;simp_all[bd.pure])
 |load t p=>simp only[CC.op,ho]at hc;(repeat' split at hc)<;>simp_all[bd.pure]<;>(subst hc;simp_all[bd.pure])
 |store t p q=>simp only[CC.op,ho]at hc;(repeat' split at hc)<;>simp_all[bd.pure]<;>(subst hc;simp_all[bd.pure])
 |makeSlice t a b=>simp only[CC.op,ho]at hc;(repeat' split at hc)<;>simp_all[bd.pure]<;>(subst hc;simp_all[bd.pure])
 |range t p=>simp only[CC.op,ho]at hc;(repeat' split at hc)<;>simp_all[bd.pure]<;>(subst hc;simp_all[bd.pure])
 |next it b=>
  cases b
  .simp[CC.op,ho]at hc
  .simp only[CC.op,ho,eg]at hc;obtain⟨s,h1,rfl⟩:=hc;simp[bd.pure]at hp
 |_=>simp[CC.op,ho]at hc
end
end
abbrev bU (Y:Ctx)(n:Nat)(ds:List D)(d:D):Prop:=Y.pre n ds/\Y.val n ds=d
end Go.Abs
