/- A part of the proofs. -/
import Derived.Attr
import Derived.ChangeKeysEq
import Derived.Deep.AppendSrc
import Derived.KernelRfl
import Derived.Test.YtfeebkgpalkobaaGreatDoorProg
import Derived.WalkKit
import GoSem.Dispatch
import GoSem.Step
set_option linter.all false
set_option maxRecDepth 60000
set_option maxHeartbeats 2000000
namespace Go.Abs
def aT:=@List.length_cons
def aX:=@List.length_nil
def dn:=@decide_eq_false_iff_not
def bU:=@decide_eq_true_eq
def aP:=@Option.some.injEq
def aj:=@if_neg
def ay:=@if_pos
def br:=@Bool.and_eq_true
def bS:=@List.length_append
def dS:=@Bool.not_eq_false'
def cW:=@Bool.not_eq_true'
def aM:=@Nat.le_refl
def bd:=@Option.some.inj
def bc:=@List.length_map
def aS:=@if_false
def aY:=@if_true
def bP:=@List.drop_zero
def cX:=@decide_eq_true
def bq:=@Nat.zero_add
def gA:=@Bool.or_eq_false_iff
def dF:=@List.forall_mem_cons
def ey:=@Bool.and_eq_false_iff
def cS:=@Option.map_eq_some_iff
def dx:=@decide_eq_false
def dW:=@Bool.or_eq_true
def gY:=@List.take_of_length_le
def pH:=@List.length_take
def eV:=@List.append_assoc
def bJ:=@List.mem_singleton
def iG:=@Bool.false_eq_true
def dm:=@Prod.mk.injEq
def fg:=@Nat.mul_le_mul_right
def eP:=@Nat.le_trans
def iV:=@Nat.lt_of_lt_of_le
def fQ:=@List.nil_append
def jM:=@List.eq_nil_of_length_eq_zero
def gZ:=@List.drop_eq_getElem_cons
def fR:=@List.cons_append
def cM:=@List.mem_cons
def b9:=@true_and
def bW:=@and_true
def cv:=@false_and
def cw:=@and_false
def cx:=@and_self
def dG:=@Eq.trans
def aC:=@congrArg
def kR:=@List.drop_eq_nil_of_le
def iH:=@List.append_nil
def pI:=@List.length_drop
def dI:=@List.not_mem_nil
def od:=@UInt8.toNat_inj
def gB:=@List.getD_cons_zero
def eJ:=@Bool.true_and
def fh:=@Bool.and_true
def fF:=@List.mem_map
def pJ:=@List.cons.injEq
def GR:=@List.mem_of_mem_take
def mQ:=@decide_eq_decide
def dQ:=@Nat.lt_or_ge
def ah {p:Prop}(h:p:=by omega):p:=h
def gE {p:Prop}(h:p:=by simp only[List.length_cons,List.length_nil];omega):p:=h
def bj {p:Prop}(h:p:=by decide):p:=h
def sG {p:Prop}(h:p:=by kernel_rfl):p:=h
def bg {p:Prop}(h:p:=by simp):p:=h
def ec {p:Prop}(h:p:=by dsimp only;omega):p:=h
def dH {p:Prop}(h:p:=by simp;omega):p:=h
def bm {p:Prop}(h:p:=by exact rfl):p:=h
inductive D where
 |any
 |bool (b:Bool)
 |int (k:IntKind) (n:Int)
 |str (s:List UInt8)
 |agg (cs:List D)
 |tup (ds:List D)
 |bM
 |sl (k:Nat) (es:List D)
 |ref (k:Nat) (es:List D) (i o:Nat)
 |ptr (l k i o:Nat)
 |own (l k i n:Nat)
 |nilp
 |fn (f:Nat) (caps:List D)
 |nilf
 |it (l:Nat)
 deriving Inhabited
inductive Src where
 |s (n:Nat)
 |l (p:Nat)
 |c (d:D)
 deriving Inhabited
inductive Sh where
 |a
 |sl (k:Nat) (cs:List Sh)
 |pt (cs:List Sh)
 |kp (cs:List Sh)
 deriving Inhabited
inductive CK where
 |b|i (k:IntKind)|s
 deriving Inhabited
inductive aG where
 |mv (x:Src)
 |pick (c a b:Src)
 |box (k:Nat) (x:Src)
 |build (z:List D) (parts:List (Nat×Nat×Src))
 |bsl (k:Nat) (z:D) (n:Nat) (parts:List (Nat×Src))
 |ld (n:Nat) (ag:Bool) (p:Src)
 |st (n:Nat) (p v:Src)
 |nilck (x:Src)
 |bin (op:BinOp) (x y:Src)
 |eqA (neg ag:Bool) (ks:List CK) (x y:Src)
 |un (op:UnOp) (x:Src)
 |cvi (k:IntKind) (x:Src)
 |mn (x y:Src)
 |s2b (x:Src)
 |b2s (x:Src)
 |i2s (x:Src)
 |mkf (f:Nat) (caps:List Src)
 |mks (k:Nat) (z:D) (ln cp:Src)
 |slS (x:Src) (lo hi:Option Src)
 |slA (k:Nat) (x:Src) (lo hi:Option Src)
 |slX (k:Nat) (x hi mx:Src)
 |fa (off:Nat) (p:Src)
 |fld (off n:Nat) (ag:Bool) (x:Src)
 |ia (k:Nat) (x i:Src)
 |iaP (n k:Nat) (x i:Src)
 |ixS (x i:Src)
 |ixA (n k:Nat) (ag:Bool) (x i:Src)
 |ext (x:Src) (i:Nat)
 |len (x:Src)
 |lenS (x:Src)
 |app (k:Nat) (x y:Src)
 |call (f:Nat) (args:List Src) (sh:List (List Sh))
 |callv (f:Src) (args:List Src) (sh:List (List Sh))
 |callM (f:Nat) (args:List Src)
 |callvM (f:Src) (args:List Src)
 |ldI (n:Nat) (ag:Bool) (p:Src)
 |ldU (n:Nat) (ag:Bool) (p:Src)
 |callF (f:Nat) (r:Src) (args:List Src) (sh:List (List Sh))
 |appN (k:Nat) (y:Src)
 |bslI (k:Nat) (z:D) (n:Nat) (parts:List (Nat×Src))
 |rng (x:Src)
 |au (x:Src)
 |mkB
 |mkM
 |upM (x k v:Src)
 |lkM (z:D) (x k:Src)
 |lkp (x k:Src)
 |VZ (x:Src)
 |isNl (x:Src) (neg:Bool)
 |mkI (n:Nat) (x:Src)
 |isI (x:Src)
 |tas (n:Nat) (z:D) (x:Src)
 |invk (x:Src)
 |zal
 |zst (p v:Src)
 |callL (f:Nat) (args:List Src) (chk:List (Nat×Nat×Bool×Src))
 deriving Inhabited
structure GI where
 i:aG
 g:Option (Nat×Bool)
 deriving Inhabited
inductive AC where
 |reg (draw:Bool) (ins:List GI) (cm:List (Nat×Nat))
 |seq (a b:AC)
 |cond (c:Src) (a b:AC)
 |block (id:Nat) (a:AC)
 |loop (a:AC)
 |exit (id:Nat)
 |ret
 |skip
 deriving Inhabited
structure Ci where
 s:Nat
 mem:Option (Nat×Bool)
 deriving Inhabited
structure ax where
 np:Nat
 ns:Nat
 res:List Ci
 rsh:List (List Sh)
 body:AC
 deriving Inhabited
@[go_sem] def D.cells:D->List D
 | .agg cs=>cs
 | .any=>[]
 | .tup _=>[]
 |d=>[d]
@[go_sem] def D.isBool:D->Bool
 | .bool _=>true
 |_=>false
@[go_sem] def D.isAgg:D->Bool
 | .agg _=>true
 |_=>false
mutual
@[go_sem] def D.aZ:D->Bool
 | .agg cs=>aR cs
 | .tup cs=>aR cs
 | .fn _ cs=>aR cs
 | .ptr .. =>false
 | .own .. =>false
 | .it _=>false
 |_=>true
@[go_sem] def aR:List D->Bool
 |[]=>true
 |d::r=>d.aZ&&aR r
end
mutual
@[go_sem] def D.eG:D->Bool
 | .agg cs=>lN cs
 | .tup cs=>lN cs
 | .fn n cs=>!(Nat.ble 2000000 n)&&lN cs
 | .ptr .. =>false
 | .own .. =>false
 | .it _=>false
 | .sl .. =>false
 | .ref .. =>false
 |_=>true
@[go_sem] def lN:List D->Bool
 |[]=>true
 |d::r=>d.eG&&lN r
end
inductive bL where
 |buf (k:Nat) (es:List D)
 |iter (s:List UInt8) (pos:Nat)
 |row (s:List UInt8)
 |bld (o:Option Nat) (n:Nat) (u:Bool)
 |mpb (kvs:List D)
 deriving Inhabited
structure St where
 nx:Nat
 m:List (Nat×bL)
@[go_sem] def look:List (Nat×bL)->Nat->Option bL
 |[],_=>none
 |(a,b)::r,l=>if a=l then some b else look r l
@[go_sem] def cR:List (Nat×bL)->Nat->bL->List (Nat×bL)
 |[],l,b=>[(l,b)]
 |(a,x)::r,l,b=>if a=l then(a,b)::r else(a,x)::cR r l b
@[go_sem] def cA:List (Nat×bL)->Nat->List (Nat×bL)
 |[],_=>[]
 |(a,x)::r,l=>if a=l then cA r l else(a,x)::cA r l
structure bI where
 ok:Bool
 d:D
@[go_sem] def bI.un:bI:=⟨true,.any⟩
@[go_sem] def Src.ev (env vs:List bI):Src->bI
 | .s n=>env.getD n .un
 | .l p=>vs.getD p .un
 | .c d=>⟨true,d⟩
structure Ctx where
 pre:Nat->List D->Prop
 val:Nat->List D->D
 tr:Nat->List D->St->(D->St->Prop)->Prop
 fp:Nat->D->List D->Prop
 fv:Nat->D->List D->D
 fs:Nat->D->List D->D
 lo:Nat
@[go_sem] def bh (m:List (Nat×bL))(l:Nat):List D:=match look m l with
 |some (.buf _ es)=>es
 |_=>[]
@[go_sem] def eM (m:List (Nat×bL))(l k n:Nat):Prop:=match look m l with
 |some (.buf k' es)=>k=k'/\n<=es.length
 |_=>False
@[go_sem] def nO (m:List (Nat×bL)):D->List D
 | .sl _ es=>es
 | .own l _ i n=>((bh m l).drop i).take n
 | .str s=>s.map fun b=>.int .u8 b.toNat
 |_=>[]
@[go_sem] def wP (m:List (Nat×bL))(k:Nat):D->Prop
 | .sl k' _=>k'=k
 | .own l k' i n=>k'=k/\eM m l k (i+n)
 | .str _=>k=1
 | .bM=>True
 |_=>False
mutual
@[go_sem] def jF (m:List (Nat×bL)):Sh->D->D
 | .a,d=>match d with
  | .bM=>.sl 0 []
  |d=>d
 | .sl k cs,d=>match d with
  | .bM=>.sl k []
  | .own l k' i c=>.sl k' ((((bh m l).drop i).take c).map (il m cs))
  |d=>d
 | .pt cs,d=>match d with
  | .ptr l k i o=>.ref k ((bh m l).map (il m cs)) i o
  |d=>d
 | .kp cs,d=>match d with
  | .own l k' i c=>.sl k' ((((bh m l).drop i).take c).map (il m cs))
  |d=>d
@[go_sem] def il (m:List (Nat×bL)):List Sh->D->D
 |[],d=>d
 |s::r,d=>match d with
  | .agg cs=>.agg (ll m (s::r) cs)
  |d=>jF m s d
@[go_sem] def ll (m:List (Nat×bL)):List Sh->List D->List D
 |[],ds=>ds
 |s::r,ds=>match ds with
  |[]=>[]
  |d::ds=>jF m s d::ll m r ds
end
mutual
@[go_sem] def gH (m:List (Nat×bL)):Sh->D->Prop
 | .a,d=>d.aZ=true
 | .sl _ cs,d=>match d with
  | .own l k' i c=>eM m l k' (i+c)/\∀e∈((bh m l).drop i).take c,fM m cs e
  |d=>d.aZ=true
 | .pt cs,d=>match d with
  | .ptr l k _ _=>eM m l k 0/\∀e∈bh m l,fM m cs e
  |d=>d.aZ=true
 | .kp cs,d=>match d with
  | .own l k' i c=>eM m l k' (i+c)/\∀e∈((bh m l).drop i).take c,fM m cs e
  |d=>d.aZ=true
@[go_sem] def fM (m:List (Nat×bL)):List Sh->D->Prop
 |[],d=>d.aZ=true
 |s::r,d=>match d with
  | .agg cs=>js m (s::r) cs
  |d=>gH m s d
@[go_sem] def js (m:List (Nat×bL)):List Sh->List D->Prop
 |[],ds=>aR ds=true
 |s::r,ds=>match ds with
  |[]=>True
  |d::ds=>gH m s d/\js m r ds
end
@[go_sem] def jh (op:BinOp):D->D->D
 | .int k a,.int _ b=>match op with
  | .add=>.int k (k.wrap (a+b))
  | .sub=>.int k (k.wrap (a-b))
  | .mul=>.int k (k.wrap (a*b))
  | .quo=>.int k (k.wrap (a.tdiv b))
  | .rem=>.int k (a.tmod b)
  | .eql=>.bool (a==b)| .neq=>.bool (a !=b)| .lss=>.bool (decide (a<b))| .leq=>.bool (decide (a<=b))| .gtr=>.bool (decide (b<a))| .geq=>.bool (decide (b<=a))
  | .shl=>.int k (k.wrap (a*2^(min b.toNat k.bits)))
  | .shr=>.int k (a.fdiv (2^(min b.toNat k.bits)))
  | .and=>.int k (k.wrap (((BitVec.ofInt k.bits a)&&&(BitVec.ofInt k.bits b)).toNat))
  | .or=>.int k (k.wrap (((BitVec.ofInt k.bits a) |||(BitVec.ofInt k.bits b)).toNat))
  | .xor=>.int k (k.wrap (((BitVec.ofInt k.bits a)^^^(BitVec.ofInt k.bits b)).toNat))
  | .andNot=>.int k (k.wrap (((BitVec.ofInt k.bits a)&&& ~~~(BitVec.ofInt k.bits b)).toNat))
 | .str a,.str b=>match op with
  | .add=>.str (a++b)
  | .eql=>.bool (a==b)| .neq=>.bool (!(a==b))| .lss=>.bool (Op.bytesLess a b)| .geq=>.bool (!(Op.bytesLess a b))
  | .leq=>.bool (Op.bytesLess a b ||a==b)| .gtr=>.bool (!(Op.bytesLess a b ||a==b))
  |_=>.any
 |_,_=>.any
@[go_sem] def iu (op:BinOp):D->D->Prop
 | .int k a,.int k' b=>match op with
  | .quo=>k=k'/\b≠0
  | .rem=>k=k'/\b≠0
  | .shl=>0<=b
  | .shr=>0<=b
  |_=>k=k'
 | .str a,.str b=>match op with
  | .add=>a.length+b.length<=9223372036854775807
  | .eql=>True| .neq=>True| .lss=>True| .geq=>True| .leq=>True| .gtr=>True
  |_=>False
 |_,_=>False
@[go_sem] def D.pick (b:Bool):D->D->D
 | .bool x,.bool y=>.bool (bif b then x else y)
 |x,y=>bif b then x else y
@[go_sem] def cut (cs:List D)(o n:Nat)(ag:Bool):D:=bif ag then .agg ((cs.drop o).take n)else cs.getD o .any
@[go_sem] def me (e:D)(k n o:Nat)(ag:Bool):D:=bif (n==k)&&(e.isAgg==ag)then e else cut e.cells o n ag
@[go_sem] def uc (m:List (Nat×bL))(n:Nat)(ag:Bool):D->D
 | .ptr l k i o=>me ((bh m l).getD i .any) k n o ag
 | .ref k es i o=>me (es.getD i .any) k n o ag
 | .fn _ es=>me (es.getD 0 .any) 1 n 0 ag
 |_=>.any
@[go_sem] def uN (m:List (Nat×bL))(n:Nat):D->Prop
 | .ptr l k i o=>eM m l k (i+1)/\o+n<=k
 | .ref k es i o=>i<es.length/\o+n<=k
 | .fn q es=>q=3000000/\n=1/\es.length=1/\(es.getD 0 .any).cells=[es.getD 0 .any]
 |_=>False
mutual
@[go_sem] def T9:D->D->Bool
 | .bool a,.bool b=>a==b
 | .int _ a,.int _ b=>a==b
 | .str a,.str b=>a==b
 |_,_=>false
@[go_sem] def iw:List D->List D->Bool
 |[],[]=>true
 |a::r,b::s=>T9 a b&&iw r s
 |_,_=>false
end
@[go_sem] def CK.fits:CK->D->Prop
 | .b,.bool _=>True
 | .i k,.int k' _=>k'=k
 | .s,.str _=>True
 |_,_=>False
@[go_sem] def fK:List CK->List D->Prop
 |[],[]=>True
 |c::r,d::s=>c.fits d/\fK r s
 |_,_=>False
@[go_sem] def over (cs:List D)(o:Nat)(new:List D):List D:=cs.take o++(new++cs.drop (o+new.length))
@[go_sem] def uV (e:D)(k n o:Nat)(v:D):D:=bif (n==k)&&(v.isAgg ||!e.isAgg)then v else .agg (over e.cells o v.cells)
@[go_sem] def wS (J:Src->bI)(cs:List D):List (Nat×Nat×Src)->List D
 |[]=>cs
 |(o,_,s)::r=>wS J (over cs o (J s).d.cells) r
@[go_sem] def tY (J:Src->bI)(len:Nat):List (Nat×Nat×Src)->Prop
 |[]=>True
 |(o,n,s)::r=>(J s).ok=true/\(J s).d.cells.length=n/\o+n<=len/\tY J len r
@[go_sem] def kr (J:Src->bI)(es:List D):List (Nat×Src)->List D
 |[]=>es
 |(i,s)::r=>kr J (es.set i (J s).d) r
@[go_sem] def mH (J:Src->bI)(k n:Nat):List (Nat×Src)->Prop
 |[]=>True
 |(i,s)::r=>i<n/\(J s).ok=true/\(J s).d.cells.length=k/\mH J k n r
@[go_sem] def D.nat:D->Nat
 | .int _ n=>n.toNat
 |_=>0
@[go_sem] def ek (o:Option D)(dflt:Nat):Nat:=match o with
 |some (.int _ n)=>n.toNat
 |_=>dflt
@[go_sem] def mS (o:Option D)(hi:Nat):Prop:=match o with
 |none=>True
 |some (.int _ n)=>0<=n/\n<=hi
 |_=>False
@[go_sem] def Kh (J:Src->bI):Option Src->Prop
 |none=>True
 |some s=>(J s).ok=true
@[go_sem] def dO (J:Src->bI):Option Src->Option D
 |none=>none
 |some s=>some (J s).d
@[go_sem] def sH (J:Src->bI):List Src->Prop
 |[]=>True
 |s::r=>(J s).ok=true/\sH J r
@[go_sem] def gV (J:Src->bI):List Src->List D
 |[]=>[]
 |s::r=>(J s).d::gV J r
@[go_sem] def D.u8:D->UInt8
 | .int _ n=>UInt8.ofNat n.toNat
 |_=>0
@[go_sem] def D.J0:D->Prop
 | .int k n=>k=.u8/\0<=n/\n<256
 |_=>False
def sR (s:List UInt8)(pos:Nat):Nat×Nat:=Utf8.decode ⟨⟨s⟩⟩ pos
def Of (n:Int):List UInt8:=(Utf8.encode n).data.toList
@[go_sem] def fV (m:List (Nat×bL)):List (List Sh)->List D->List D
 |_,[]=>[]
 |[],d::r=>il m [.a] d::fV m [] r
 |s::ss,d::r=>il m s d::fV m ss r
@[go_sem] def iB (m:List (Nat×bL)):List (List Sh)->List D->Prop
 |_,[]=>True
 |[],d::r=>fM m [.a] d/\iB m [] r
 |s::ss,d::r=>fM m s d/\iB m ss r
@[go_sem] def qQ:D->Bool
 | .agg [.str _,.str _]=>true
 |_=>false
@[go_sem] def m7:D->D->Bool
 | .agg [.str a,.str b],.agg [.str c,.str d]=>a==c&&b==d
 |_,_=>false
@[go_sem] def sb:List D->Bool
 |[]=>true
 |k::_::r=>qQ k&&sb r
 |[_]=>false
@[go_sem] def EV (k:D):List D->Option D
 |a::v::r=>bif m7 a k then some v else EV k r
 |_=>none
@[go_sem] def ud (k v:D):List D->List D
 |a::w::r=>bif m7 a k then a::v::r else a::w::ud k v r
 |_=>[k,v]
@[go_sem] def xo:D->List Nat
 | .fn _ [.it l]=>[l]
 |_=>[]
@[go_sem] def J8 (m:List (Nat×bL)):D->List D
 | .fn _ [.it l]=>match look m l with
  |some (.mpb kvs)=>kvs
  |_=>[]
 |_=>[]
@[go_sem] def V2 (m:List (Nat×bL)):D->Prop
 | .fn n [.it l]=>n=5000000/\match look m l with
  |some (.mpb kvs)=>sb kvs=true
  |_=>False
 |_=>False
@[go_sem] def MZ (s:List UInt8):List D->D
 | .str a::f::r=>bif a==s then f else MZ s r
 |_=>.nilf
@[go_sem] def UE:List D->Prop
 |[]=>True
 | .str _::_::r=>UE r
 |_=>False
@[go_sem] def aG.val (Y:Ctx)(J:Src->bI)(m:List (Nat×bL))(L:Nat):aG->D
 | .mv x=>(J x).d
 | .pick c a b=>match(J c).d with| .bool t=>D.pick t (J a).d (J b).d|_=>.any
 | .box k _=>.ptr L k 0 0
 | .build z ps=>.agg (wS J z ps)
 | .bsl k _ n _=>.own L k 0 n
 | .ld n ag p=>uc m n ag (J p).d
 | .st _ _ _=>.any
 | .nilck x=>(J x).d
 | .bin op x y=>jh op (J x).d (J y).d
 | .eqA neg _ _ x y=>.bool (bif neg then !(iw (J x).d.cells (J y).d.cells)else iw (J x).d.cells (J y).d.cells)
 | .un op x=>match op,(J x).d with
  | .not,.bool b=>.bool (!b)
  | .neg,.int k n=>.int k (k.wrap (0-n))
  |_,_=>.any
 | .cvi k x=>match(J x).d with| .int _ n=>.int k (k.wrap n)|_=>.any
 | .mn x y=>match(J x).d,(J y).d with| .int k a,.int _ b=>.int k (if b<a then b else a)|_,_=>.any
 | .s2b x=>match(J x).d with| .str s=>.own L 1 0 s.length|_=>.any
 | .b2s x=>.str ((nO m (J x).d).map D.u8)
 | .i2s x=>match(J x).d with| .int _ n=>.str (Of n)|_=>.any
 | .mkf f caps=>.fn f (gV J caps)
 | .mks k _ ln _=>.own L k 0 (J ln).d.nat
 | .slS x lo hi=>match(J x).d with
  | .str s=>.str ((s.take (ek (dO J hi) s.length)).drop (ek (dO J lo) 0))
  |_=>.any
 | .slA _ x lo hi=>match(J x).d with
  | .sl k es=>.sl k ((es.take (ek (dO J hi) es.length)).drop (ek (dO J lo) 0))
  | .own l k i n=>.own l k (i+ek (dO J lo) 0) (ek (dO J hi) n-ek (dO J lo) 0)
  | .bM=>.bM
  |_=>.any
 | .slX _ x hi _=>match(J x).d,(J hi).d with
  | .sl k es,.int _ h=>.sl k (es.take h.toNat)
  | .own l k i _,.int _ h=>.own l k i h.toNat
  | .bM,_=>.bM
  |_,_=>.any
 | .fa off p=>match(J p).d with
  | .ptr l k i o=>.ptr l k i (o+off)
  | .ref k es i o=>.ref k es i (o+off)
  |_=>.any
 | .fld off n ag x=>cut (J x).d.cells off n ag
 | .ia _ x i=>match(J x).d,(J i).d with
  | .sl k es,.int _ n=>.ref k es n.toNat 0
  | .own l k j _,.int _ n=>.ptr l k (j+n.toNat) 0
  |_,_=>.any
 | .iaP _ k x i=>match(J x).d,(J i).d with
  | .ptr l k' j o,.int _ n=>.ptr l k' j (o+n.toNat*k)
  | .ref k' es j o,.int _ n=>.ref k' es j (o+n.toNat*k)
  |_,_=>.any
 | .ixS x i=>match(J x).d,(J i).d with
  | .str s,.int _ n=>.int .u8 (s.getD n.toNat 0).toNat
  |_,_=>.any
 | .ixA _ k ag x i=>match(J i).d with
  | .int _ n=>cut (J x).d.cells (n.toNat*k) k ag
  |_=>.any
 | .ext x i=>match(J x).d with| .tup ds=>ds.getD i .any|_=>.any
 | .len x=>match(J x).d with
  | .sl _ es=>.int .i64 es.length
  | .own _ _ _ n=>.int .i64 n
  | .bM=>.int .i64 0
  |_=>.any
 | .lenS x=>match(J x).d with
  | .str s=>.int .i64 s.length
  |_=>.any
 | .app k x y=>match(J x).d with
  | .own _ _ _ n=>.own L k 0 (n+(nO m (J y).d).length)
  |_=>.own L k 0 (nO m (J y).d).length
 | .call f args sh=>Y.val f (fV m sh (gV J args))
 | .callv f args sh=>match(J f).d with
  | .fn n caps=>Y.val n (fV m sh (gV J args++caps))
  |_=>.any
 | .callM _ _=>.any
 | .callvM _ _=>.any
 | .callL .. =>.any
 | .ldU n ag p=>uc m n ag (J p).d
 | .ldI n ag p=>match(J p).d with
  | .ref k es i o=>me (es.getD i .any) k n o ag
  | .fn _ es=>me (es.getD 0 .any) 1 n 0 ag
  |_=>.any
 | .appN k y=>.own L k 0 (nO m (J y).d).length
 | .bslI k z n ps=>.sl k (kr J (List.replicate n z) ps)
 | .callF f r args sh=>match(J r).d with
  | .ptr l _ _ _=>Y.fv f ((bh m l).getD 0 .any) (fV [] sh (gV J args))
  |_=>.any
 | .rng _=>.it L
 | .mkB=>.ptr L 2 0 0
 | .mkM=>.fn 5000000 [.it L]
 | .upM .. =>.any
 | .lkM z x k=>match EV (J k).d (J8 m (J x).d)with
  |some v=>.tup [v,.bool true]
  |none=>.tup [z,.bool false]
 | .lkp x k=>match(J x).d,(J k).d with| .fn _ es,.str s=>MZ s es|_,_=>.any
 | .VZ x=>match(J x).d with| .nilf=>.bool true|_=>.bool false
 | .isNl .. =>.any
 | .mkI n x=>.fn (n+4000000) [(J x).d]
 | .isI x=>match(J x).d with| .fn n _=>.bool (n==4600000)|_=>.any
 | .tas n z x=>match(J x).d with| .fn k cs=>bif k==n+4000000 then .tup [cs.getD 0 .any,.bool true]else .tup [z,.bool false]|_=>.any
 | .invk x=>match(J x).d with| .fn k cs=>Y.val (k-4000000) (fV m [] cs)|_=>.any
 | .zal=>.fn 4700000 []
 | .zst _ _=>.any
 | .au x=>match(J x).d with
  | .it l=>match look m l with
   |some (.iter s pos)=>bif decide (pos<s.length)then .tup [.bool true,.int .i64 pos,.int .i32 (sR s pos).1]else .tup [.bool false]
   |_=>.any
  |_=>.any
@[go_sem] def nJ (args:List D)(r:D):Bool:=aR args ||r.eG
@[go_sem] def aG.dE (Y:Ctx)(J:Src->bI)(m:List (Nat×bL)):aG->Prop
 | .mv x=>(J x).ok=true
 | .pick c a b=>(J c).ok=true/\match(J c).d with
  | .bool t=>(t=true->(J a).ok=true)/\(t=false->(J b).ok=true)
  |_=>False
 | .box k x=>(J x).ok=true/\(J x).d.cells.length=k
 | .build z ps=>tY J z.length ps
 | .bsl k z n ps=>z.cells.length=k/\mH J k n ps
 | .ld n _ p=>(J p).ok=true/\uN m n (J p).d
 | .st n p v=>(J p).ok=true/\(J v).ok=true/\(J v).d.cells.length=n/\match(J p).d with
  | .ptr l k i o=>eM m l k (i+1)/\o+n<=k
  |_=>False
 | .nilck x=>(J x).ok=true/\match(J x).d with| .ptr .. =>True| .ref .. =>True|_=>False
 | .bin op x y=>(J x).ok=true/\(J y).ok=true/\iu op (J x).d (J y).d
 | .eqA _ ag ks x y=>(J x).ok=true/\(J y).ok=true/\(J x).d.isAgg=ag/\(J y).d.isAgg=ag/\fK ks (J x).d.cells/\fK ks (J y).d.cells
 | .un op x=>(J x).ok=true/\match op,(J x).d with
  | .not,.bool _=>True
  | .neg,.int _ _=>True
  |_,_=>False
 | .cvi _ x=>(J x).ok=true/\match(J x).d with| .int _ _=>True|_=>False
 | .mn x y=>(J x).ok=true/\(J y).ok=true/\match(J x).d,(J y).d with| .int _ _,.int _ _=>True|_,_=>False
 | .s2b x=>(J x).ok=true/\match(J x).d with| .str _=>True|_=>False
 | .b2s x=>(J x).ok=true/\(match(J x).d with| .str _=>False|_=>True)/\wP m 1 (J x).d/\∀e∈nO m (J x).d,e.J0
 | .i2s x=>(J x).ok=true/\match(J x).d with| .int _ _=>True|_=>False
 | .mkf _ caps=>sH J caps
 | .mks k z ln cp=>(J ln).ok=true/\(J cp).ok=true/\z.cells.length=k/\match(J ln).d,(J cp).d with
  | .int _ n,.int _ c=>0<=n/\n<=c/\c<=1073741824
  |_,_=>False
 | .slS x lo hi=>(J x).ok=true/\Kh J lo/\Kh J hi/\match(J x).d with
  | .str s=>mS (dO J hi) s.length/\mS (dO J lo) (ek (dO J hi) s.length)
  |_=>False
 | .slA k x lo hi=>(J x).ok=true/\Kh J lo/\Kh J hi/\match(J x).d with
  | .sl k' es=>k'=k/\mS (dO J hi) es.length/\mS (dO J lo) (ek (dO J hi) es.length)
  | .own _ k' _ n=>k'=k/\mS (dO J hi) n/\mS (dO J lo) (ek (dO J hi) n)
  | .bM=>mS (dO J hi) 0/\mS (dO J lo) 0
  |_=>False
 | .slX k x hi mx=>(J x).ok=true/\(J hi).ok=true/\(J mx).ok=true/\match(J hi).d,(J mx).d with
  | .int _ h,.int _ m=>0<=h/\h<=m/\(match(J x).d with
    | .sl k' es=>k'=k/\m<=es.length
    | .own _ k' _ n=>k'=k/\m<=n
    | .bM=>m=0
    |_=>False)
  |_,_=>False
 | .fa off p=>(J p).ok=true/\match(J p).d with| .ptr .. =>True| .ref .. =>True|_=>False
 | .fld off n ag x=>(J x).ok=true/\match(J x).d with| .agg cs=>off+n<=cs.length/\(ag=false->n=1)|_=>False
 | .ia k x i=>(J x).ok=true/\(J i).ok=true/\match(J x).d,(J i).d with
  | .sl k' es,.int _ n=>k'=k/\0<=n/\n<es.length
  | .own _ k' _ c,.int _ n=>k'=k/\0<=n/\n<c
  |_,_=>False
 | .iaP n k x i=>(J x).ok=true/\(J i).ok=true/\match(J x).d,(J i).d with
  | .ptr ..,.int _ c=>0<=c/\c<n
  | .ref ..,.int _ c=>0<=c/\c<n
  |_,_=>False
 | .ixS x i=>(J x).ok=true/\(J i).ok=true/\match(J x).d,(J i).d with
  | .str s,.int _ n=>0<=n/\n<s.length
  |_,_=>False
 | .ixA n k ag x i=>(J x).ok=true/\(J i).ok=true/\(ag=false->k=1)/\match(J x).d,(J i).d with
  | .agg cs,.int _ c=>0<=c/\c<n/\cs.length=n*k
  |_,_=>False
 | .ext x i=>(J x).ok=true/\match(J x).d with| .tup ds=>i<ds.length|_=>False
 | .len x=>(J x).ok=true/\match(J x).d with| .sl _ _=>True| .own .. =>True| .bM=>True|_=>False
 | .lenS x=>(J x).ok=true/\match(J x).d with| .str _=>True|_=>False
 | .app k x y=>(J x).ok=true/\(J y).ok=true/\wP m k (J y).d/\match(J x).d with
  | .own l k' i n=>k'=k/\eM m l k (i+n)/\n+(nO m (J y).d).length<=1073741824
  | .bM=>(nO m (J y).d).length<=1073741824
  |_=>False
 | .call f args sh=>sH J args/\iB m sh (gV J args)/\Y.pre f (fV m sh (gV J args))/\nJ (gV J args) (Y.val f (fV m sh (gV J args)))=true
 | .callv f args sh=>(J f).ok=true/\sH J args/\match(J f).d with
  | .fn n caps=>n<1000000/\iB m sh (gV J args++caps)/\Y.pre n (fV m sh (gV J args++caps))/\nJ (gV J args++caps) (Y.val n (fV m sh (gV J args++caps)))=true
  |_=>False
 | .callM _ args=>sH J args
 | .callvM _ args=>sH J args
 | .callL _ args _=>sH J args
 | .ldU n _ p=>(J p).ok=true/\match(J p).d with
  | .ptr l k i o=>(eM m l k (i+1)/\o+n<=k)/\aR (bh m l)=false
  | .ref k es i o=>i<es.length/\o+n<=k
  |_=>False
 | .ldI n _ p=>(J p).ok=true/\match(J p).d with
  | .ref k es i o=>i<es.length/\o+n<=k
  | .fn q es=>q=3000000/\n=1/\es.length=1/\(es.getD 0 .any).cells=[es.getD 0 .any]
  |_=>False
 | .appN k y=>(J y).ok=true/\wP m k (J y).d/\(nO m (J y).d).length<=1073741824
 | .bslI k z n ps=>z.cells.length=k/\mH J k n ps/\aR (kr J (List.replicate n z) ps)=true
 | .callF f r args sh=>(J r).ok=true/\sH J args/\aR (gV J args)=true/\match(J r).d with
  | .ptr l k i o=>i=0/\o=0/\eM m l k 1/\(bh m l).length=1/\((bh m l).getD 0 .any).aZ=true/\Y.fp f ((bh m l).getD 0 .any) (fV [] sh (gV J args))
  |_=>False
 | .rng x=>(J x).ok=true/\match(J x).d with| .str _=>True|_=>False
 | .mkB=>True
 | .mkM=>True
 | .upM x k v=>(J x).ok=true/\(J k).ok=true/\(J v).ok=true/\V2 m (J x).d/\qQ (J k).d=true/\∃q n,(J v).d=.int q n
 | .lkM _ x k=>(J x).ok=true/\(J k).ok=true/\V2 m (J x).d/\qQ (J k).d=true
 | .lkp x k=>(J x).ok=true/\(J k).ok=true/\match(J x).d,(J k).d with
  | .fn n es,.str _=>n=2000000/\UE es
  |_,_=>False
 | .isNl .. =>True
 | .mkI _ x=>(J x).ok=true
 | .isI x=>(J x).ok=true/\match(J x).d with| .fn n _=>4000000<=n/\n<=4600000|_=>False
 | .tas n z x=>(J x).ok=true/\match(J x).d with| .fn k _=>4000000<=k/\k<=4600000|_=>False
 | .invk x=>(J x).ok=true/\match(J x).d with| .fn k cs=>(4000000<=k/\k<4600000)/\aR cs=true/\Y.pre (k-4000000) (fV m [] cs)|_=>False
 | .zal=>True
 | .zst p v=>(J p).ok=true/\(J v).ok=true/\match(J p).d,(J v).d with| .fn k _,.agg []=>k=4700000|_,_=>False
 | .VZ x=>(J x).ok=true/\match(J x).d with| .nilf=>True| .fn n _=>n<2000000|_=>False
 | .au x=>(J x).ok=true/\match(J x).d with
  | .it l=>match look m l with
   |some (.iter _ _)=>True
   |_=>False
  |_=>False
@[go_sem] def Src.xf:Src->Bool
 | .s _=>true
 |_=>false
@[go_sem] def aG.zh (draw:Bool)(J:Src->bI):aG->Prop
 | .len x=>bif draw&& !x.xf then True else(J x).ok=true->match(J x).d with
  | .sl _ es=>es.length<=9223372036854775807
  | .own _ _ _ n=>n<=9223372036854775807
  |_=>True
 | .lenS x=>bif draw&& !x.xf then True else(J x).ok=true->match(J x).d with
  | .str s=>s.length<=9223372036854775807
  |_=>True
 |_=>True
@[go_sem] def aG.cr (Y:Ctx)(J:Src->bI)(m:List (Nat×bL))(L:Nat):aG->List (Nat×bL)
 | .box k x=>cR m L (.buf k [(J x).d])
 | .bsl k z n ps=>cR m L (.buf k (kr J (List.replicate n z) ps))
 | .mks k z ln _=>cR m L (.buf k (List.replicate (J ln).d.nat z))
 | .s2b x=>match(J x).d with
  | .str s=>cR m L (.buf 1 (s.map fun b=>.int .u8 b.toNat))
  |_=>m
 | .st n p v=>match(J p).d with
  | .ptr l k i o=>cR m l (.buf k ((bh m l).set i (uV ((bh m l).getD i .any) k n o (J v).d)))
  |_=>m
 | .app k x y=>match(J x).d with
  | .own l k' i n=>cR (cA m l) L (.buf k ((((bh m l).drop i).take n)++nO m (J y).d))
  |_=>cR m L (.buf k (nO m (J y).d))
 | .appN k y=>cR m L (.buf k (nO m (J y).d))
 | .callF f r args sh=>match(J r).d with
  | .ptr l k _ _=>cR m l (.buf k [Y.fs f ((bh m l).getD 0 .any) (fV [] sh (gV J args))])
  |_=>m
 | .rng x=>match(J x).d with
  | .str s=>cR m L (.iter s 0)
  |_=>m
 | .mkB=>cR m L (.bld none 0 false)
 | .mkM=>cR m L (.mpb [])
 | .upM x k v=>match(J x).d with
  | .fn _ [.it l]=>cR m l (.mpb (ud (J k).d (J v).d (J8 m (J x).d)))
  |_=>m
 | .au x=>match(J x).d with
  | .it l=>match look m l with
   |some (.iter s pos)=>bif decide (pos<s.length)then cR m l (.iter s (pos+(sR s pos).2))else m
   |_=>m
  |_=>m
 |_=>m
@[go_sem] def dk:D->List Nat
 | .ptr l _ _ _=>[l]
 | .own l _ _ _=>[l]
 | .it l=>[l]
 |_=>[]
@[go_sem] def aG.kY (J:Src->bI):aG->Option (List Nat)
 | .ld _ _ p=>some (dk (J p).d)
 | .ldU _ _ p=>some (dk (J p).d)
 | .st _ p _=>some (dk (J p).d)
 | .b2s x=>some (dk (J x).d)
 | .app _ x y=>some (dk (J x).d++dk (J y).d)
 | .au x=>some (dk (J x).d)
 | .call _ args _=>bif aR (gV J args)then some []else none
 | .callv f args _=>match(J f).d with
  | .fn _ caps=>bif aR (gV J args++caps)then some []else none
  |_=>none
 | .callM _ _=>none
 | .callvM _ _=>none
 | .callL .. =>none
 | .isNl .. =>none
 | .callF _ r _ _=>some (dk (J r).d)
 | .upM x _ _=>some (xo (J x).d)
 | .lkM _ x _=>some (xo (J x).d)
 | .appN _ y=>some (dk (J y).d)
 |_=>some []
@[go_sem] def aG.wr (J:Src->bI)(L:Nat):aG->List Nat
 | .box .. =>[L]
 | .bsl .. =>[L]
 | .mks .. =>[L]
 | .s2b _=>[L]
 | .rng _=>[L]
 | .mkB=>[L]
 | .mkM=>[L]
 | .upM x _ _=>xo (J x).d
 | .st _ p _=>dk (J p).d
 | .app _ x _=>L::dk (J x).d
 | .au x=>dk (J x).d
 | .callF _ r _ _=>dk (J r).d
 | .appN .. =>[L]
 |_=>[]
@[go_sem] def aG.calm:aG->Bool
 | .st .. =>false
 | .app .. =>false
 | .au .. =>false
 | .callM .. =>false
 | .callvM .. =>false
 | .callL .. =>false
 | .isNl .. =>false
 | .callF .. =>false
 | .upM .. =>false
 |_=>true
@[go_sem] def flag (vs:List bI):Option (Nat×Bool)->Bool
 |none=>true
 |some (j,w)=>(vs.getD j .un).ok&&match(vs.getD j .un).d with
  | .bool b=>b==w
  |_=>false
@[go_sem] def ET (vs:List bI)(i:aG):Option (Nat×Bool)->Prop
 |none=>True
 |some (j,_)=>i.calm=true/\((vs.getD j .un).ok=true->(vs.getD j .un).d.isBool=true)
@[go_sem] def aG.jQ (draw:Bool)(g:Option (Nat×Bool))(i:aG):Bool:=!draw&&(!i.calm&&g.isSome)
@[go_sem] def uI (vs:List bI):Option (Nat×Bool)->Prop
 |none=>True
 |some (j,_)=>(vs.getD j .un).ok=true->(vs.getD j .un).d.isBool=true
@[go_sem] def nlB (d:D)(b:Bool):Prop:=match d with
 | .bM=>b=true
 | .sl _ es=>b=true->es=[]
 | .own _ _ _ n=>b=true->n=0
 |_=>True
@[go_sem] def slB:D->Prop
 | .bM=>True
 | .sl .. =>True
 | .own .. =>True
 |_=>False
@[go_sem] def Fa (n:Nat):Nat:=if n<1000000 then n else n-1000000
@[go_sem] def E9 (n:Nat)(amf caps:List D):List D:=if n<1000000 then amf++caps else caps++amf
def ew (Y:Ctx)(draw:Bool):List GI->(env vs:List bI)->St->(List bI->St->Prop)->Prop
 |[],_,vs,st,K=>K vs {st with nx:=st.nx+vs.length}
 |⟨.callM f args,g⟩::r,env,vs,st,K=>
  uI vs g/\(flag vs g=true->sH (Src.ev env vs) args/\
   Y.tr f (gV (Src.ev env vs) args) {st with nx:=st.nx+vs.length} fun d st'=>st.nx+vs.length<=st'.nx/\ew Y draw r env (vs++[⟨true,d⟩]) {st' with nx:=st'.nx-vs.length} K)/\
   (flag vs g=false->ew Y draw r env (vs++[⟨false,.any⟩]) st K)
 |⟨.callvM f args,g⟩::r,env,vs,st,K=>
  uI vs g/\(flag vs g=true->(Src.ev env vs f).ok=true/\sH (Src.ev env vs) args/\match(Src.ev env vs f).d with
   | .fn n caps=>n<2000000/\Y.tr (Fa n) (E9 n (gV (Src.ev env vs) args) caps) {st with nx:=st.nx+vs.length} fun d st'=>st.nx+vs.length<=st'.nx/\ew Y draw r env (vs++[⟨true,d⟩]) {st' with nx:=st'.nx-vs.length} K
   |_=>False)/\
   (flag vs g=false->ew Y draw r env (vs++[⟨false,.any⟩]) st K)
 |⟨.callL f args chk,g⟩::r,env,vs,st,K=>
  g=none/\sH (Src.ev env vs) args/\
   Y.tr f (gV (Src.ev env vs) args) {st with nx:=st.nx+vs.length} fun d st'=>(∀c∈chk,(vs.getD c.1 .un).ok=true->uN st'.m c.2.1 (Src.ev env (vs.take c.1) c.2.2.2).d/\uc st'.m c.2.1 c.2.2.1 (Src.ev env (vs.take c.1) c.2.2.2).d=(vs.getD c.1 .un).d)/\
    st.nx+vs.length<=st'.nx/\ew Y draw r env (vs++[⟨true,d⟩]) {st' with nx:=st'.nx-vs.length} K
 |⟨.isNl x ng,g⟩::r,env,vs,st,K=>
  uI vs g/\(flag vs g=true->(Src.ev env vs x).ok=true/\slB (Src.ev env vs x).d/\∀b,nlB (Src.ev env vs x).d b->ew Y draw r env (vs++[⟨true,.bool (bif ng then !b else b)⟩]) st K)/\
   (flag vs g=false->ew Y draw r env (vs++[⟨false,.any⟩]) st K)
 |⟨i,g⟩::r,env,vs,st,K=>
  if i.jQ draw g=true then
   uI vs g/\(flag vs g=true->i.dE Y (Src.ev env vs) st.m/\
     ew Y draw r env (vs++[⟨true,i.val Y (Src.ev env vs) st.m (st.nx+vs.length)⟩]) {st with m:=i.cr Y (Src.ev env vs) st.m (st.nx+vs.length)} K)/\
    (flag vs g=false->ew Y draw r env (vs++[⟨false,.any⟩]) st K)
  else
  ET vs i g/\(flag vs g=true->i.dE Y (Src.ev env vs) st.m)/\
   ((flag vs g=true->i.zh draw (Src.ev env vs))->∃d,(flag vs g=true->i.val Y (Src.ev env vs) st.m (st.nx+vs.length)=d)/\
     ew Y draw r env (vs++[⟨flag vs g,d⟩]) {st with m:=i.cr Y (Src.ev env vs) st.m (st.nx+vs.length)} K)
mutual
@[go_sem] def eS (l k:Nat)(es:List D):D->D
 | .own l' k' i n=>if l'=l/\k'=k/\i+n<=es.length then .sl k ((es.drop i).take n)else .own l' k' i n
 | .ptr l' k' i o=>if l'=l/\k'=k then .ref k es i o else .ptr l' k' i o
 | .agg cs=>.agg (fL l k es cs)
 | .tup cs=>.tup (fL l k es cs)
 | .fn f cs=>.fn f (fL l k es cs)
 | .any=>.any
 | .bool b=>.bool b
 | .int k n=>.int k n
 | .str s=>.str s
 | .bM=>.bM
 | .sl k es=>.sl k es
 | .ref k es i o=>.ref k es i o
 | .nilp=>.nilp
 | .nilf=>.nilf
 | .it l=>.it l
@[go_sem] def fL (l k:Nat)(es:List D):List D->List D
 |[]=>[]
 |d::r=>eS l k es d::fL l k es r
end
@[go_sem] def jx (l k:Nat)(es:List D):bL->bL
 | .buf k' es'=>.buf k' (fL l k es es')
 |b=>b
@[go_sem] def jf (l k:Nat)(es:List D):List (Nat×bL)->List (Nat×bL)
 |[]=>[]
 |(a,b)::r=>(a,jx l k es b)::jf l k es r
@[go_sem] def iS (l k:Nat)(es:List D):List bI->List bI
 |[]=>[]
 |⟨ok,d⟩::r=>⟨ok,eS l k es d⟩::iS l k es r
@[go_sem] def Ld (l:Nat)(s:List bI×List (Nat×bL)):List bI×List (Nat×bL):=match look s.2 l with
 |some (.buf k es)=>bif aR es then(iS l k es s.1,jf l k es (cA s.2 l))else s
 |_=>s
@[go_sem] def frzs:List Nat->List bI×List (Nat×bL)->List bI×List (Nat×bL)
 |[],s=>s
 |l::r,s=>frzs r (Ld l s)
inductive Ex where
 |normal|exit (id:Nat)|ret
@[go_sem] def fZ (env vs:List bI):List (Nat×Nat)->List bI
 |[]=>env
 |(s,p)::r=>fZ (env.set s (vs.getD p .un)) vs r
@[go_sem] def gD (lo:Nat)(σ:List (Nat×Nat))(l:Nat):Option Nat:=match σ with
 |[]=>bif Nat.blt l lo then some l else none
 |(a,b)::r=>bif Nat.beq a l then some b else gD lo r l
@[go_sem] def vC (lo:Nat)(σ:List (Nat×Nat))(l:Nat)(f:Nat->D):Option D:=match gD lo σ l with
 |some l'=>some (f l')
 |none=>none
mutual
@[go_sem] def kO (lo:Nat)(σ:List (Nat×Nat)):D->Option D
 | .own l k i n=>vC lo σ l fun l=>.own l k i n
 | .ptr l k i o=>vC lo σ l fun l=>.ptr l k i o
 | .it l=>vC lo σ l fun l=>.it l
 | .agg cs=>match jm lo σ cs with
  |some cs=>some (.agg cs)
  |none=>none
 | .tup cs=>match jm lo σ cs with
  |some cs=>some (.tup cs)
  |none=>none
 | .fn f cs=>match jm lo σ cs with
  |some cs=>some (.fn f cs)
  |none=>none
 | .any=>some .any
 | .bool b=>some (.bool b)
 | .int k n=>some (.int k n)
 | .str s=>some (.str s)
 | .bM=>some .bM
 | .sl k es=>some (.sl k es)
 | .ref k es i o=>some (.ref k es i o)
 | .nilp=>some .nilp
 | .nilf=>some .nilf
@[go_sem] def jm (lo:Nat)(σ:List (Nat×Nat)):List D->Option (List D)
 |[]=>some []
 |d::r=>match kO lo σ d,jm lo σ r with
  |some d,some r=>some (d::r)
  |_,_=>none
end
mutual
def pL:D->D->Prop
 | .bM,d'=>d'=.bM\/∃l k i,d'=.own l k i 0
 | .agg a,d'=>∃b,d'=.agg b/\EY a b
 |d,d'=>d'=d/\d.aZ=true
def EY:List D->List D->Prop
 |[],b=>b=[]
 |d::r,b=>∃d' r',b=d'::r'/\pL d d'/\EY r r'
end
def Pv (lo:Nat)(σ:List (Nat×Nat))(d d':D):Prop:=d'=d/\d.aZ=true\/kO lo σ d=some d'\/pL d d'
def lZ (lo:Nat)(σ:List (Nat×Nat)):bL->bL->Prop
 | .buf k es,.buf k' es'=>k'=k/\(es'=es/\aR es=true\/jm lo σ es=some es'\/EY es es')
 | .iter s p,.iter s' p'=>s'=s/\p'=p
 | .row s,.row s'=>s'=s
 | .mpb s,.mpb s'=>s'=s
 | .bld o n u,.bld o' n' u'=>(match o with
  |none=>o'=none
  |some l=>∃l',gD lo σ l=some l'/\o'=some l')/\n'=n/\u'=u
 |_,_=>False
def aL (lo:Nat)(σ:List (Nat×Nat)):List bI->List bI->Prop
 |[],[]=>True
 |a::r,b::s=>(b.ok=a.ok/\Pv lo σ a.d b.d\/b=.un)/\aL lo σ r s
 |_,_=>False
def aB (lo c:Nat)(σ:List (Nat×Nat))(m:List (Nat×bL)):List (Nat×bL)->Prop
 |[]=>True
 |(l',b')::r=>((∃l b,gD lo σ l=some l'/\look m l=some b/\lZ lo σ b b')\/(Nat.ble lo l'=true/\Nat.blt l' c=true/\σ.all (fun p=>!Nat.beq p.2 l')=true/\∃k,b'=.buf k []))/\aB lo c σ m r
def fk (lo c:Nat):List (Nat×Nat)->Bool
 |[]=>Nat.ble lo c
 |(a,b)::r=>(Nat.ble lo b&&(Nat.blt b c&&(r.all (fun p=>!Nat.beq p.1 a&& !Nat.beq p.2 b)&&fk lo c r)))
@[go_sem] def Uy:List bI->List bI->Prop
 |[],[]=>True
 |a::r,b::s=>(b=a\/b=.un)/\Uy r s
 |_,_=>False
@[go_sem] def Ou (m:List (Nat×bL)):List (Nat×bL)->Prop
 |[]=>True
 |(l,b)::r=>look m l=some b/\Ou m r
inductive yP:D->D->Prop
 |refl (d:D):yP d d
 |nil (k:Nat):yP .bM (.sl k [])
 |agg (a b:List D) (hl:b.length=a.length) (h:∀i,yP (a.getD i .any) (b.getD i .any)):yP (.agg a) (.agg b)
 |sl (k:Nat) (a b:List D) (hl:b.length=a.length) (h:∀i,yP (a.getD i .any) (b.getD i .any)):yP (.sl k a) (.sl k b)
def GX (a b:List D):Prop:=b.length=a.length/\∀i,yP (a.getD i .any) (b.getD i .any)
def S2:bL->bL->Prop
 | .buf k es,.buf k' es'=>k'=k/\GX es es'
 |b,b'=>b'=b
def Rd:List bI->List bI->Prop
 |[],[]=>True
 |a::r,b::s=>(b.ok=a.ok/\yP a.d b.d)/\Rd r s
 |_,_=>False
def oJ (m:List (Nat×bL)):List (Nat×bL)->Prop
 |[]=>True
 |(l,b')::r=>(∃b,look m l=some b/\S2 b b')/\oJ m r
inductive aO (lo:Nat):List bI->St->List bI->St->Prop
 |refl (env:List bI) (st:St):aO lo env st env st
 |Ld (l:Nat) (env:List bI) (st:St):aO lo env st (Ld l (env,st.m)).1 ⟨st.nx,(Ld l (env,st.m)).2⟩
 |ren (σ:List (Nat×Nat)) (c:Nat) (env env':List bI) (nx:Nat) (m m':List (Nat×bL)) (h:fk lo c σ=true) (he:aL lo σ env env') (hm:aB lo c σ m m'):aO lo env ⟨nx,m⟩ env' ⟨c,m'⟩
 |wk (env env':List bI) (nx:Nat) (m m':List (Nat×bL)) (he:Uy env env') (hm:Ou m m'):aO lo env ⟨nx,m⟩ env' ⟨nx,m'⟩
 |nz (env env':List bI) (nx:Nat) (m m':List (Nat×bL)) (he:Rd env env') (hm:oJ m m'):aO lo env ⟨nx,m⟩ env' ⟨nx,m'⟩
 |trans (env1 env2 env3:List bI) (st1 st2 st3:St) (h:aO lo env1 st1 env2 st2) (h':aO lo env2 st2 env3 st3):aO lo env1 st1 env3 st3
def Gh (lo:Nat)(p:List bI->St->Prop)(env:List bI)(st:St):Prop:=∃env' st',aO lo env st env' st'/\p env' st'
def bO (Y:Ctx):AC->(Ex->List bI->St->Prop)->List bI->St->Prop
 | .reg draw ins cm,Q=>Gh Y.lo fun env st=>ew Y draw ins env [] st fun vs st'=>Q .normal (fZ env vs cm) st'
 | .seq a b,Q=>Gh Y.lo (bO Y a (fun e env st=>match e with
   | .normal=>bO Y b Q env st
   |e=>Q e env st))
 | .cond c a b,Q=>Gh Y.lo fun env st=>(c.ev env []).ok=true/\match(c.ev env []).d with
  | .bool t=>(t=true->bO Y a Q env st)/\(t=false->bO Y b Q env st)
  |_=>False
 | .block id a,Q=>Gh Y.lo (bO Y a (fun e env st=>match e with
   | .exit j=>if j=id then Q .normal env st else Q (.exit j) env st
   |e=>Q e env st))
 | .loop a,Q=>Gh Y.lo fun env st=>∃(I:List bI->St->Prop) (μ:List bI->St->Nat),
   I env st/\∀env st,I env st->
   bO Y a (fun e env' st'=>match e with
    | .normal=>∃env2 st2,aO Y.lo env' st' env2 st2/\I env2 st2/\μ env2 st2<μ env st
    |e=>Q e env' st') env st
 | .exit id,Q=>Gh Y.lo (Q (.exit id))
 | .ret,Q=>Gh Y.lo (Q .ret)
 | .skip,Q=>Gh Y.lo (Q .normal)
def Ctx.at (Y:Ctx)(n:Nat):Ctx:={Y with lo:=n}
@[go_sem] def BZ (m:List (Nat×bL))(env:List bI)(r:Ci):D:=match r.mem with
 |none=>(env.getD r.s .un).d
 |some (n,ag)=>uc m n ag (env.getD r.s .un).d
@[go_sem] def mN (m:List (Nat×bL))(env:List bI):List Ci->Prop
 |[]=>True
 |r::rs=>(env.getD r.s .un).ok=true/\(match r.mem with
   |none=>True
   |some (n,_)=>uN m n (env.getD r.s .un).d)/\mN m env rs
@[go_sem] def n5 (m:List (Nat×bL))(env:List bI):List Ci->List D
 |[]=>[]
 |r::rs=>BZ m env r::n5 m env rs
@[go_sem] def jl (a:ax)(env:List bI)(st:St):D:=match a.res with
 |[r]=>BZ st.m env r
 |rs=>.tup (n5 st.m env rs)
@[go_sem] def Oc (a:ax)(env:List bI)(st:St):D:=match a.res with
 |[r]=>il st.m (a.rsh.getD 0 []) (BZ st.m env r)
 |rs=>.tup (fV st.m a.rsh (n5 st.m env rs))
@[go_sem] def Ea (a:ax)(env:List bI)(st:St):Prop:=match a.res with
 |[r]=>fM st.m (a.rsh.getD 0 []) (BZ st.m env r)
 |rs=>iB st.m a.rsh (n5 st.m env rs)
@[go_sem] def Ex.home:Ex->Prop
 | .exit _=>False
 |_=>True
@[go_sem] def fC (a:ax)(ds:List D):List bI:=(ds.map fun d=>⟨true,d⟩)++List.replicate (a.ns-a.np) .un
def trOf (Y:Ctx)(a:ax)(ds:List D)(st:St)(K:D->St->Prop):Prop:=
 ds.length=a.np/\bO (Y.at st.nx) a.body (fun e env st=>e.home/\mN st.m env a.res/\K (jl a env st) st) (fC a ds) st
mutual
def de:Value->Option D
 | .bool b=>some (.bool b)
 | .int k n=>some (.int k n)
 | .string s=>if s.size<=9223372036854775807 then some (.str s.data.toList)else none
 | .pointer none=>some .nilp
 | .slice none 0 0=>some .bM
 | .nilFunc=>some .nilf
 | .nilIface=>some (.fn 4600000 [])
 | .map none=>some (.fn 5100000 [])
 | .agg ⟨cs⟩=>if rM cs then(pQ cs).map .agg else none
 |_=>none
def pQ:List Value->Option (List D)
 |[]=>some []
 |v::r=>match de v,pQ r with
  |some d,some ds=>some (d::ds)
  |_,_=>none
def rM:List Value->Bool
 |[]=>true
 |v::r=>(match v with
  | .agg _=>false
  | .tuple _=>false
  |_=>true)&&rM r
end
def B0 (P:Program):Nat->TypeId->List Sh
 |0,_=>[.a]
 |d+1,t=>match P.underlying t with
  |some (.struct fs)=>(fs.toList.map fun f=>B0 P d f.type).flatten
  |some (.array n e)=>(List.replicate n (B0 P d e)).flatten
  |some (.slice e)=>[.sl (P.cellsOf e) (B0 P d e)]
  |some (.pointer e)=>[.pt (B0 P d e)]
  |_=>[.a]
def Uu:List Sh->List Sh
 |[.sl _ cs]=>[.kp cs]
 |l=>l
def ZU (fn:Func):Nat:=100000000+fn.endLine*10000+fn.ntmps
structure CC where
 P:Program
 ν:List (Nat×Nat)
 cr:List Nat
 slots:List Nat
 ntmps:Nat
 vm:Bool
def dp:List (Nat×Nat)->Nat->Option Nat
 |[],_=>none
 |(a,b)::r,l=>if a=l then some b else dp r l
def ifN (P:Program)(ν:List (Nat×Nat))(t:TypeId):Option Nat:=match P.underlying t with
 |some (.interface _)=>none
 |none=>none
 |some _=>match dp ν (1000000000+t)with
  |some q=>if 500000<=q then some (q-500000)else none
  |none=>none
def QZ (k:Nat):Option Nat:=if k<1000000000 then none else some (k-1000000000)
def C0 (P:Program)(ν:List (Nat×Nat))(name:String)(t n:Nat):Bool:=match P.underlying t with
 |some (.pointer _)=>false
 |none=>false
 |some _=>match P.info? t with
  |some ti=>(match ti.methods.find? (·.name==name)with
   |some m=>m.path.toList.isEmpty&&(match m.func with
    |some (f,false)=>dp ν f==some n
    |_=>false)
   |none=>false)
  |none=>false
def MI (P:Program)(ν:List (Nat×Nat))(name:String):Bool:=ν.all fun p=>match QZ p.1 with
 |none=>true
 |some t=>C0 P ν name t (p.2-500000)
def uJ:List Nat->Nat->Option Nat
 |[],_=>none
 |a::r,t=>if a=t then some 0 else(uJ r t).map (· +1)
def posOf (t:Nat):List (Option Nat)->Option Nat
 |[]=>none
 |a::r=>if a=some t then some 0 else(posOf t r).map (· +1)
def CC.src (C:CC)(defs:List (Option Nat)):Operand->Option Src
 | .tmp t=>match posOf t defs with
  |some p=>some (.l p)
  |none=>(uJ C.slots t).map .s
 | .const v=>(de v).map .c
 | .func f=>(dp C.ν f).map fun n=>.c (.fn n [])
 | .global _=>none
def CC.rm (C:CC)(defs:List (Option Nat)):List Operand->Option (List Src)
 |[]=>some []
 |x::r=>match C.src defs x,C.rm defs r with
  |some a,some l=>some (a::l)
  |_,_=>none
def CC.opt (C:CC)(defs:List (Option Nat)):Option Operand->Option (Option Src)
 |none=>some none
 |some x=>(C.src defs x).map some
def cI (P:Program)(t:TypeId):Bool:=match P.underlying t with
 |some (.struct _)=>true
 |some (.array ..)=>true
 |_=>false
def kB (P:Program)(k:TypeId->Option (List CK)):Nat->List Field->Option (List CK)
 |_,[]=>some []
 |off,f::r=>if f.name= "_" \/f.offset≠off then none else
  match k f.type,kB P k (off+P.cellsOf f.type) r with
  |some a,some b=>if a.length=P.cellsOf f.type/\a.length≠0/\(P.underlying f.type).isNone=false then some (a++b)else none
  |_,_=>none
def fX (P:Program):Nat->TypeId->Option (List CK)
 |0,_=>none
 |d+1,t=>match P.underlying t with
  |some .bool=>some [.b]
  |some (.int k)=>some [.i k]
  |some .string=>some [.s]
  |some (.struct fs)=>if P.stoodInHeld t then none else kB P (fun t=>fX P d t) 0 fs.toList
  |some (.array n e)=>match fX P d e with
   |some l=>if l.length=P.cellsOf e/\l.length≠0/\(P.underlying e).isNone=false then some (List.replicate n l).flatten else none
   |none=>none
  |_=>none
def CC.parts (C:CC)(defs:List (Option Nat))(place:Nat->Option (Nat×Nat)):List (Nat×Operand)->Option (List (Nat×Nat×Src))
 |[]=>some []
 |(i,x)::r=>match place i,C.src defs x,C.parts defs place r with
  |some (o,n),some s,some l=>if n=0 then none else some ((o,n,s)::l)
  |_,_,_=>none
def CC.tu (C:CC)(defs:List (Option Nat)):List (Nat×Operand)->Option (List (Nat×Src))
 |[]=>some []
 |(i,x)::r=>match C.src defs x,C.tu defs r with
  |some s,some l=>some ((i,s)::l)
  |_,_=>none
def nA (P:Program)(t:TypeId):Option D:=((P.info? t).bind (·.zero)).bind de
def zVD:D:=.agg [.int .i64 0,.int .i64 0,.int .i64 0,.str [],.str []]
def CC.Ms (C:CC)(t:TypeId):Operand->Option D
 | .global g=>if(C.cr.contains (500000000+g)=true/\g<400000000)/\C.P.cellsOf t=5/\cI C.P t=true/\(C.P.underlying t).isNone=false then some zVD else none
 |_=>none
def nB (P:Program)(t:TypeId):Bool:=match nA P t with
 |some z=>z.cells.length==P.cellsOf t
 |none=>false
def Fy (P:Program)(k:TypeId):Bool:=match P.underlying k with
 |some (.array 2 e)=>(match P.underlying e with
  |some .string=>P.cellsOf e==1&&(P.cellsOf k==2&& !(P.types.size==0))
  |_=>false)
 |_=>false
def CC.op (C:CC)(defs:List (Option Nat))(o:Oper):Option aG:=
 match o.op with
 | .move x=>(C.src defs x).map .mv
 | .assign x=>(C.src defs x).map .mv
 | .pick c a b=>match C.src defs c,C.src defs a,C.src defs b with
  |some c,some a,some b=>some (.pick c a b)
  |_,_,_=>none
 | .alloc t=>match nA C.P t with
  |some z=>if C.P.cellsOf t=0 then some .zal else if C.cr.contains (1000000000+t)then(match z with
   | .agg [.nilp,.bM]=>some .mkB
   |_=>none)else some (.box (C.P.cellsOf t) (.c z))
  |none=>none
 | .box t x=>match C.src defs x with
  |some s=>if C.P.cellsOf t=0 then some .zal else some (.box (C.P.cellsOf t) s)
  |none=>none
 | .build t ps=>match nA C.P t,C.P.underlying t with
  |some (.agg z),some (.struct fs)=>if fs.toList.all (fun f=>(C.P.info? f.type).isSome)then(C.parts defs (fun i=>(fs[i]?).map fun f=>(f.offset,C.P.cellsOf f.type)) ps.toList).map (.build z)else none
  |some (.agg z),some (.array _ e)=>if C.P.cellsOf e=0 then none else(C.parts defs (fun i=>some (i*C.P.cellsOf e,C.P.cellsOf e)) ps.toList).map (.build z)
  |_,_=>none
 | .buildSlice t n ps=>match C.P.underlying t with
  |some (.slice e)=>match nA C.P e,C.tu defs ps.toList with
   |some z,some l=>if C.P.cellsOf e=0\/n*C.P.cellsOf e>16777216 then none else some (.bsl (C.P.cellsOf e) z n l)
   |_,_=>none
  |_=>none
 | .load t a=>match C.Ms t a with
  |some d=>some (.mv (.c d))
  |none=>match C.src defs a with
  |some s=>if C.P.cellsOf t=0\/(C.P.underlying t).isNone\/(cI C.P t=false/\C.P.cellsOf t≠1)then none else some (.ld (C.P.cellsOf t) (cI C.P t) s)
  |none=>none
 | .store t a x=>match C.src defs a,C.src defs x with
  |some a,some x=>if C.P.cellsOf t=0 then(if(C.P.info? t).isSome then some (.zst a x)else none)else some (.st (C.P.cellsOf t) a x)
  |_,_=>none
 | .nilCheck x=>(C.src defs x).map .nilck
 | .binOp op t x y _=>match C.src defs x,C.src defs y with
  |some a,some b=>match C.P.underlying t with
   |some (.int _)=>some (.bin op a b)
   |some .string=>some (.bin op a b)
   |some (.interface _)=>match op,b with
    | .eql,.c (.fn 4600000 [])=>some (.isI a)
    |_,_=>none
   |_=>if C.P.eqGuardType C.P.depth t then none else match fX C.P 30 t,op with
    |some ks,.eql=>some (.eqA false (cI C.P t) ks a b)
    |some ks,.neq=>some (.eqA true (cI C.P t) ks a b)
    |none,.eql=>match C.P.underlying t,b with
     |some (.func ..),.c .nilf=>some (.VZ a)
     |some (.slice _),.c .bM=>some (.isNl a false)
     |_,_=>none
    |none,.neq=>match C.P.underlying t,b with
     |some (.slice _),.c .bM=>some (.isNl a true)
     |_,_=>none
    |_,_=>none
  |_,_=>none
 | .unOp op _ x=>(C.src defs x).map (.un op)
 | .convert s d x=>match C.P.underlying s,C.P.underlying d,C.src defs x with
  |some (.int _),some (.int k),some a=>some (.cvi k a)
  |some (.int _),some .string,some a=>some (.i2s a)
  |some .string,some (.slice e),some a=>match C.P.underlying e with
   |some (.int .u8)=>some (.s2b a)
   |_=>none
  |some (.slice e),some .string,some a=>match C.P.underlying e with
   |some (.int .u8)=>some (.b2s a)
   |_=>none
  |_,_,_=>none
 | .makeFunc (.func f) first caps=>match dp C.ν f,C.rm defs caps.toList with
  |some n,some l=>if first.isEmpty then some (.mkf n l)else if l.isEmpty then(C.rm defs first.toList).map (.mkf (n+1000000))else none
  |_,_=>none
 | .makeSlice t l c=>match C.P.underlying t with
  |some (.slice e)=>match nA C.P e,C.src defs l,C.src defs c with
   |some z,some l,some c=>if C.P.cellsOf e=0\/C.P.bytesOf e>65536 then none else some (.mks (C.P.cellsOf e) z l c)
   |_,_,_=>none
  |_=>none
 | .slice t x lo hi mx=>match C.P.underlying t,C.src defs x,C.opt defs lo,C.opt defs hi,mx with
  |some .string,some a,some l,some h,none=>some (.slS a l h)
  |some (.slice e),some a,some l,some h,none=>if C.P.cellsOf e=0 then none else some (.slA (C.P.cellsOf e) a l h)
  |some (.slice e),some a,some none,some (some h),some m=>match C.src defs m with
   |some m=>if C.P.cellsOf e=0 then none else some (.slX (C.P.cellsOf e) a h m)
   |none=>none
  |_,_,_,_,_=>none
 | .fieldAddr t x f=>match C.P.underlying t,C.src defs x with
  |some (.struct fs),some a=>match fs[f]? with
   |some f=>if C.P.cellsOf f.type=0 then none else some (.fa f.offset a)
   |none=>none
  |_,_=>none
 | .field t x f=>match C.P.underlying t,C.src defs x with
  |some (.struct fs),some a=>match fs[f]? with
   |some f=>if C.P.cellsOf f.type=0\/(C.P.underlying f.type).isNone then none else some (.fld f.offset (C.P.cellsOf f.type) (cI C.P f.type) a)
   |none=>none
  |_,_=>none
 | .indexAddr t x i=>match C.P.underlying t,C.src defs x,C.src defs i with
  |some (.slice e),some a,some b=>if C.P.cellsOf e=0 then none else some (.ia (C.P.cellsOf e) a b)
  |some (.array n e),some a,some b=>if C.P.cellsOf e=0 then none else some (.iaP n (C.P.cellsOf e) a b)
  |_,_,_=>none
 | .index t x i=>match C.P.underlying t,C.src defs x,C.src defs i with
  |some .string,some a,some b=>some (.ixS a b)
  |some (.array n e),some a,some b=>if C.P.cellsOf e=0\/(C.P.underlying e).isNone then none else some (.ixA n (C.P.cellsOf e) (cI C.P e) a b)
  |_,_,_=>none
 | .lookup t x y false=>match C.src defs x,C.src defs y,C.P.underlying t with
  |some a,some b,some (.map k e)=>match C.P.underlying k,nA C.P e with
   |some .string,some .nilf=>some (.lkp a b)
   |_,_=>none
  |_,_,_=>none
 | .lookup t x y true=>match C.src defs x,C.src defs y,C.P.underlying t with
  |some a,some b,some (.map k e)=>match nA C.P e with
   |some z=>if Fy C.P k=true then some (.lkM z a b)else none
   |none=>none
  |_,_,_=>none
 | .makeMap t none=>match C.P.underlying t with
  |some (.map k _)=>if Fy C.P k=true then some .mkM else none
  |_=>none
 | .mapUpdate t x y v=>match C.src defs x,C.src defs y,C.src defs v with
  |some a,some b,some c=>match C.P.underlying t with
   |some (.map k _)=>if Fy C.P k=true then some (.upM a b c)else none
   |_=>none
  |_,_,_=>none
 | .range t x=>match C.P.underlying t,C.src defs x with
  |some .string,some a=>some (.rng a)
  |_,_=>none
 | .next it true=>(C.src defs it).map .au
 | .makeInterface t x=>match C.src defs x,ifN C.P C.ν t with
  |some s,some n=>some (.mkI n s)
  |_,_=>none
 | .typeAssert x _ t true=>match C.src defs x,ifN C.P C.ν t,nA C.P t with
  |some s,some n,some z=>if n<500000/\C.ν.all (fun p=>p.1==1000000000+t ||p.2 !=500000+n)=true then some (.tas n z s)else none
  |_,_,_=>none
 | .extract t i=>(C.src defs t).map fun s=>.ext s i
 | .call c=>match c.callee with
  | .builtin .len=>match c.args.toList,c.argTypes.toList with
   |[x],[t]=>match C.src defs x,C.P.underlying t with
    |some a,some .string=>some (.lenS a)
    |some a,some (.slice _)=>some (.len a)
    |_,_=>none
   |_,_=>none
  | .builtin .min=>match c.args.toList with
   |[x,y]=>match C.src defs x,C.src defs y with
    |some a,some b=>some (.mn a b)
    |_,_=>none
   |_=>none
  | .builtin .append=>match c.args.toList,c.argTypes.toList with
   |[x,y],[t,u]=>match C.src defs x,C.src defs y,C.P.underlying t,C.P.underlying u with
    |some a,some b,some (.slice e),some (.slice _)=>if C.P.cellsOf e=0\/C.P.bytesOf e>65536\/C.P.bytesOf e=0\/nB C.P e=false then none else some (.app (C.P.cellsOf e) a b)
    |some a,some b,some (.slice e),some .string=>if C.P.cellsOf e=0\/C.P.bytesOf e>65536\/C.P.bytesOf e=0\/nB C.P e=false then none else some (.app (C.P.cellsOf e) a b)
    |_,_,_,_=>none
   |_,_=>none
  | .value (.func f)=>match dp C.ν f,C.rm defs c.args.toList with
   |some n,some l=>if C.cr.contains (2*n)then some (.callM n l)else if C.cr.contains (2*n+1)then(match l with
     |r::rest=>some (.callF n r rest ((c.argTypes.toList.map (B0 C.P 8)).drop 1))
     |[]=>none)else some (.call n l (c.argTypes.toList.map (B0 C.P 8)))
   |_,_=>none
  | .value (.tmp t)=>match C.src defs (.tmp t),C.rm defs c.args.toList with
   |some s,some l=>if C.vm then some (.callvM s l)else some (.callv s l (c.argTypes.toList.map (B0 C.P 8)))
   |_,_=>none
  | .invoke r name=>if c.args.toList.isEmpty&&MI C.P C.ν name then(C.src defs r).map .invk else none
  |_=>none
 |_=>none
def CC.guard (defs:List (Option Nat)):Option (Nat×Bool)->Option (Option (Nat×Bool))
 |none=>some none
 |some (j,w)=>match defs[j]? with
  |some (some _)=>some (some (j,w))
  |_=>none
def CC.ops (C:CC):(defs:List (Option Nat))->List Oper->Option (List GI)
 |_,[]=>some []
 |defs,o::r=>match C.op defs o,CC.guard defs o.guard,C.ops (defs++[o.dst]) r with
  |some i,some g,some l=>if o.dst.all (fun d=>d<C.ntmps&& !defs.contains (some d))then some (⟨i,g⟩::l)else none
  |_,_,_=>none
def CC.fH (C:CC):Nat->List Oper->List (Nat×Nat)
 |_,[]=>[]
 |p,o::r=>match o.dst.bind (uJ C.slots)with
  |some s=>(s,p)::C.fH (p+1) r
  |none=>C.fH (p+1) r
def oe (acc:List Nat):List Edge->Nat
 |[]=>0
 |e::r=>if Region.binds .any e then(2^e.on |||acc.getD e.on 0) |||oe acc r else oe acc r
def jV:List Nat->List Oper->List Nat
 |acc,[]=>acc
 |acc,o::r=>jV (acc++[oe acc o.after.toList]) r
def tmpsOf (ops:List Oper)(o:Oper):List Nat:=
 (o.op.operands.toList.filterMap fun
   | .tmp t=>some t
   |_=>none)++(match o.guard with
   |some (g,_)=>((ops[g]?).bind (·.dst)).toList
   |none=>[])
def p8 (ops:List Oper)(bs:List Nat):Bool:=
 (List.range ops.length).all fun j=>(List.range ops.length).all fun p=>match ops[j]?,ops[p]? with
   |some oj,some op=>match op.dst with
    |some t=>p==j ||!(tmpsOf ops oj).contains t ||(bs.getD (max j p) 0).testBit (min j p)
    |none=>true
   |_,_=>false
def aG.pure:aG->Bool
 | .mv _=>true
 | .pick .. =>true
 | .build .. =>true
 | .nilck _=>true
 | .bin .. =>true
 | .eqA .. =>true
 | .un .. =>true
 | .cvi .. =>true
 | .mn .. =>true
 | .i2s _=>true
 | .mkf .. =>true
 | .slS .. =>true
 | .slA .. =>true
 | .slX .. =>true
 | .fa .. =>true
 | .fld .. =>true
 | .ia .. =>true
 | .iaP .. =>true
 | .ixS .. =>true
 | .ixA .. =>true
 | .ext .. =>true
 | .len _=>true
 | .lenS _=>true
 | .ldI .. =>true
 | .bslI .. =>true
 | .lkp .. =>true
 | .VZ _=>true
 | .mkI .. =>true
 | .isI _=>true
 | .tas .. =>true
 | .zst .. =>true
 |_=>false
def Sh.VY:Sh->Bool
 | .a=>true
 |_=>false
def aG.free:aG->Bool
 | .call _ _ sh=>sh.all fun s=>s.all Sh.VY
 |i=>i.pure
def aG.ja:aG->Bool
 | .box .. =>true
 | .bsl .. =>true
 | .mks .. =>true
 | .s2b .. =>true
 | .rng .. =>true
 | .mkB=>true
 | .mkM=>true
 |_=>false
def aG.isApp:aG->Bool
 | .app .. =>true
 |_=>false
def aG.lh:aG->Bool
 | .callF .. =>true
 |_=>false
def aG.lj:aG->Bool
 | .ldU .. =>true
 |_=>false
def exU (l:List GI)(gj gi:aG)(j i:Nat):Bool:=gi.lj&&((gj.isApp&&decide (j<i)) ||(gj.lh&&(decide (i<j)&&(List.range j).all fun q=>decide (q<=i) ||match l[q]? with
 |some g=>g.i.calm ||g.i.lh
 |none=>true)))
def Rl (l:List GI)(bs:List Nat):Bool:=
 (List.range l.length).all fun j=>(List.range l.length).all fun i=>match l[j]?,l[i]? with
   |some gj,some gi=>gj.i.calm ||gi.i.free ||(gi.i.ja&&(!gj.i.isApp ||decide (j<i))) ||i==j ||(bs.getD (max j i) 0).testBit (min j i) ||exU l gj.i gi.i j i
   |_,_=>false
def aG.cN:aG->Bool
 | .callM .. =>true
 | .callvM .. =>true
 | .callL .. =>true
 | .isNl .. =>true
 |_=>false
def nM:Nat->List Oper->Bool
 |_,[]=>true
 |p,o::r=>o.after.toList.all (fun e=>!Region.binds .any e ||decide (e.on<p))&&nM (p+1) r
def QY:GI->Bool
 |⟨.mv _,none⟩=>true
 |⟨.un ..,_⟩=>true
 |⟨.pick ..,none⟩=>true
 |_=>false
def HS:List GI->Bool
 |⟨.callM ..,_⟩::r=>r.all QY
 |⟨.callvM ..,_⟩::r=>r.all QY
 |_=>false
def Hu (l:List GI)(bs:List Nat):Bool:=
 let n:=l.findIdx fun g=>g.i.cN
 HS (l.drop n)&&((l.take n).all (fun g=>!g.i.cN)&&(List.range (l.length-n)).all fun q=>(List.range (n+q)).all fun p=>(bs.getD (n+q) 0).testBit p)
def wO (ops:List Oper)(l:List GI):Bool:=
 let bs:=jV [] ops
 p8 ops bs&&(Rl l bs&&(((l.all fun g=>!g.i.cN) ||Hu l bs)&&nM 0 ops))
def aG.VH:aG->aG
 | .app k (.c .bM) y=>.appN k y
 |i=>i
def looseAt (bs:List Nat)(l:List GI)(i:Nat):Bool:=
 (List.range l.length).any fun j=>match l[j]? with
   |some gj=>!(gj.i.VH.calm ||i==j ||(bs.getD (max j i) 0).testBit (min j i))
   |none=>false
def Uz (bs:List Nat)(l:List GI)(i:Nat):Bool:=
 (List.range l.length).all fun j=>match l[j]? with
   |some gj=>gj.i.VH.calm ||i==j ||(bs.getD (max j i) 0).testBit (min j i) ||(gj.i.isApp&&decide (j<i)) ||(gj.i.lh&&(decide (i<j)&&(List.range j).all fun q=>decide (q<=i) ||match l[q]? with
    |some g=>g.i.VH.calm ||g.i.lh
    |none=>true))
   |none=>true
def Uo (bs:List Nat)(l:List GI)(p:Nat):Bool:=
 (List.range l.length).any fun j=>match l[j]? with
   |some ⟨.ia _ (.l q) _,_⟩=>Nat.beq q p&&(List.range l.length).any fun i=>match l[i]? with
    |some ⟨.ld _ _ (.l r),_⟩=>Nat.beq r j&&looseAt bs l i
    |_=>false
   |_=>false
def Zk (l:List GI)(p:Nat):Bool:=l.any fun g=>match g.i with
 | .call _ args _=>args.any fun s=>match s with
  | .l q=>Nat.beq q p
  |_=>false
 |_=>false
def kM (bs:List Nat)(l0:List GI):Nat->List GI->List GI
 |_,[]=>[]
 |p,g::r=>(match g.i with
  | .ld n ag x=>if looseAt bs l0 p then(if Uz bs l0 p then⟨.ldU n ag x,g.g⟩else⟨.ldI n ag x,g.g⟩)else g
  | .bsl k z n ps=>if(Uo bs l0 p ||(Nat.ble 2 k&&Zk l0 p))=true then⟨.bslI k z n ps,g.g⟩else g
  |i=>⟨i.VH,g.g⟩)::kM bs l0 (p+1) r
def tQ (b:Nat):Nat->List GI->List (Nat×Nat×Bool×Src)
 |_,[]=>[]
 |p,⟨.ld n ag x,_⟩::r=>if b.testBit p=true then tQ b (p+1) r else(p,n,ag,x)::tQ b (p+1) r
 |p,_::r=>tQ b (p+1) r
def aG.yW:aG->Bool
 | .ld .. =>true
 |_=>false
def FE (ops:List Oper)(l:List GI):Option (List GI):=
 let bs:=jV [] ops
 let n:=l.findIdx fun g=>g.i.cN
 match l.drop n with
 |⟨.callM f args,none⟩::suf=>if((l.take n).all (fun g=>g.i.pure ||g.i.yW)&&(suf.all (fun g=>g.g.isNone&& !g.i.cN)&&(p8 ops bs&&(nM 0 ops&&((List.range suf.length).all fun q=>(List.range (n+1+q)).all fun p=>((l.take n).getD p ⟨.mkB,none⟩).i.pure ||(bs.getD (n+1+q) 0).testBit p)))))=true
   then some (l.take n++⟨.callL f args (tQ (bs.getD n 0) 0 (l.take n)),none⟩::suf)else none
 |_=>none
def CC.code (C:CC):Code->Option AC
 | .skip=>some .skip
 | .region _ ops draw=>match C.ops [] ops.toList with
  |some l=>if draw then
    if wO ops.toList (kM (jV [] ops.toList) l 0 l)then some (.reg true (kM (jV [] ops.toList) l 0 l) (C.fH 0 ops.toList))else(FE ops.toList l).map fun l'=>.reg true l' (C.fH 0 ops.toList)
   else some (.reg false l (C.fH 0 ops.toList))
  |none=>none
 | .seq a b=>match C.code a,C.code b with
  |some a,some b=>some (.seq a b)
  |_,_=>none
 | .cond c a b=>match C.src [] c,C.code a,C.code b with
  |some c,some a,some b=>some (.cond c a b)
  |_,_,_=>none
 | .block id a=>(C.code a).map (.block id)
 | .loop a=>(C.code a).map .loop
 | .exit id=>some (.exit id)
 | .ret=>some .ret
 | .scope a=>C.code a
 | .label _=>some .skip
 |_=>none
def HY:(defs:List (Option Nat))->List Oper->List Nat
 |_,[]=>[]
 |defs,o::r=>(o.op.operands.toList.filterMap fun
   | .tmp t=>if(posOf t defs).isNone then some t else none
   |_=>none)++HY (defs++[o.dst]) r
def yA:Code->List Nat
 | .region _ ops _=>HY [] ops.toList
 | .seq a b=>yA a++yA b
 | .cond c a b=>(match c with
  | .tmp t=>[t]
  |_=>[])++yA a++yA b
 | .block _ a=>yA a
 | .loop a=>yA a
 | .scope a=>yA a
 |_=>[]
def p9:List ResultVar->List Nat
 |[]=>[]
 | .tmp t::r=>t::p9 r
 | .cell t _::r=>t::p9 r
def dedup:List Nat->List Nat->List Nat
 |acc,[]=>acc.reverse
 |acc,a::r=>if acc.contains a then dedup acc r else dedup (a::acc) r
def sk (P:Program)(sl:List Nat):List ResultVar->Option (List Ci)
 |[]=>some []
 | .tmp t::r=>match uJ sl t,sk P sl r with
  |some a,some l=>some (⟨a,none⟩::l)
  |_,_=>none
 | .cell t ty::r=>match uJ sl t,sk P sl r with
  |some a,some l=>if P.cellsOf ty=0\/(P.underlying ty).isNone\/(cI P ty=false/\P.cellsOf ty≠1)then none else some (⟨a,some (P.cellsOf ty,cI P ty)⟩::l)
  |_,_=>none
def slotsOf (fn:Func):List Nat:=dedup [] (List.range (fn.params.size+fn.nfree)++p9 fn.results.toList++yA (fn.body.getD .skip))
def vmOps (P:Program)(ops:List Oper):Bool:=ops.any fun o=>match o.op with
 | .makeFunc _ first _=>!first.isEmpty
 | .lookup t _ _ _=>(match P.underlying t with
  |some (.map _ e)=>(match P.underlying e with
   |some (.func ..)=>true
   |_=>false)
  |_=>false)
 | .call c=>(match c.callee with
  | .value (.tmp _)=>c.argTypes.toList.any fun t=>match P.underlying t with
   |some (.pointer _)=>true
   |_=>false
  |_=>false)
 |_=>false
def EB (P:Program):Code->Bool
 | .region _ ops _=>vmOps P ops.toList
 | .seq a b=>EB P a ||EB P b
 | .cond _ a b=>EB P a ||EB P b
 | .block _ a=>EB P a
 | .loop a=>EB P a
 | .scope a=>EB P a
 |_=>false
def GJ (P:Program)(fn:Func):Bool:=EB P (fn.body.getD .skip)
def compile (P:Program)(ν:List (Nat×Nat))(cr:List Nat)(fn:Func):Option ax:=
 match fn.body with
 |some body=>
  match CC.code {P,ν,cr,slots:=slotsOf fn,ntmps:=fn.ntmps,vm:=GJ P fn} body,sk P (slotsOf fn) fn.results.toList with
  |some a,some res=>
   if fn.params.size+fn.nfree<=fn.ntmps then some {np:=fn.params.size+fn.nfree,ns:=(slotsOf fn).length,res,rsh:=fn.resultTypes.toList.map fun t=>bif cr.contains (ZU fn)then Uu (B0 P 8 t)else B0 P 8 t,body:=a}else none
  |_,_=>none
 |none=>none
def uP:List (Nat×Nat):=[(3,1215),(4,89),(5,36),(6,90),(7,160),(8,94),(9,29),(10,264),(11,265),(12,154),(13,155),(14,156),(15,109),(16,157),(17,266),(18,111),(19,112),(20,271),(21,272),(22,153),(23,25),(24,175),(25,142),(26,138),(27,315),(28,502),(29,410),(30,217),(31,375),(32,376),(33,377),(34,378),(35,379),(36,159),(37,380),(38,503),(39,504),(40,110),(41,169),(42,145),(43,144),(44,189),(45,509),(46,52),(47,186),(48,408),(49,209),(50,295),(51,409),(52,353),(53,354),(54,355),(55,349),(56,553),(57,689),(58,690),(59,274),(60,691),(61,273),(62,623),(63,624),(64,455),(65,456),(66,599),(67,600),(68,601),(69,602),(70,603),(71,604),(72,374),(73,605),(74,358),(75,580),(76,75),(77,296),(78,297),(79,135),(80,298),(81,403),(82,359),(83,357),(84,418),(85,696),(86,697),(87,698),(88,170),(89,417),(90,531),(91,516),(92,440),(93,441),(94,442),(95,530),(96,532),(97,533),(98,534),(99,622),(100,208),(101,74),(102,511),(103,510),(104,712),(105,470),(106,666),(107,667),(108,668),(109,769),(110,770),(111,771),(112,598),(113,772),(114,216),(115,501),(116,73),(117,221),(118,535),(119,536),(120,617),(121,618),(122,424),(123,453),(124,454),(125,508),(126,628),(127,629),(128,704),(129,658),(130,659),(131,714),(132,780),(133,72),(134,220),(135,699),(136,700),(137,701),(138,861),(139,916),(140,917),(141,918),(142,919),(143,920),(144,921),(145,71),(146,219),(147,464),(148,777),(149,778),(150,630),(151,631),(152,695),(153,627),(154,924),(155,925),(156,70),(157,215),(158,463),(159,980),(160,1019),(161,1020),(162,1021),(163,218),(164,316),(165,461),(166,462),(167,249),(168,783),(169,782),(170,1023),(171,1024),(172,210),(173,211),(174,212),(175,213),(176,214),(177,450),(178,451),(179,242),(180,452),(181,1055),(182,1086),(183,457),(184,458),(185,459),(186,460),(187,554),(188,927),(189,926),(190,1087),(191,443),(192,444),(193,445),(194,446),(195,447),(196,448),(197,449),(198,489),(199,664),(200,665),(202,669),(203,670),(204,572),(205,671),(206,672),(207,673),(208,674),(209,734),(210,1025),(211,495),(212,496),(213,124),(214,660),(215,661),(216,662),(217,254),(218,487),(219,663),(221,336),(223,812),(224,813),(225,814),(226,744),(227,745),(228,815),(229,816),(230,882),(231,682),(232,683),(233,684),(234,685),(236,808),(237,809),(238,810),(239,811),(245,952),(246,953),(247,954),(248,896),(249,897),(250,898),(251,899),(252,900),(253,901),(254,955),(255,819),(263,827),(264,828),(268,946),(269,947),(270,948),(271,949),(272,950),(273,951),(277,1032),(278,1033),(279,1034),(280,1035),(281,1036),(282,1006),(283,1007),(284,1008),(285,482),(286,676),(287,956),(288,957),(295,1031),(304,1097),(305,1098),(306,1099),(307,1100),(308,678),(309,1079),(310,677),(321,1126),(326,1141)]
def Fi:List Nat:=[219,1091,1354,1894,1896,1616,1320,1618,1898,2062,2066,2282,2068,2252,2194,2064,1904,900,931,937,935,445,978,1328,904,942,944,946,952,448,522,1724,1726,1728,1430,486,500,1842,760,314,310,308,1836,872,870,406,410,412,103920080,104450022,104360064,595,1071,593,597,221,533,1004,1018,1000000216,500000000]
noncomputable def cfY (f:Nat):Option ax:=((Go.Proofs.Tryz.prog).funcs[f]?).bind (compile Go.Proofs.Tryz.prog uP Fi)
def zofN (n:Nat):Int.ofNat (no_index (@OfNat.ofNat Nat n (instOfNatNat n)))=@OfNat.ofNat Int n (@instOfNat n):=rfl
def zofU (n:Nat)(h:n<2^8):UInt8.ofBitVec (BitVec.ofFin (Fin.mk (no_index (@OfNat.ofNat Nat n (instOfNatNat n))) h))=(OfNat.ofNat n:UInt8):=od.1 (by show n=(UInt8.ofNat n).toNat;rw[UInt8.toNat_ofNat'];exact(Nat.mod_eq_of_lt h).symm)
def zofM:Int.negSucc 0=-1:=rfl
noncomputable def b8 (f:Nat)(s:{a:ax//cfY f=some a}:=by refine⟨?_, ?_⟩;rotate_left;conv=>lhs;reduce;dsimp only[zofN,zofM];try simp only[zofU]):ax:=s.1
section
structure X where
 w:World
 I:Nat->Prop
 β:Nat->Option (Nat×Nat×Nat)
def Bp (es:List MapEntry)(i:Nat):Value:=match es[i/2]? with
 |some e=>if i%2=0 then e.key else e.val
 |none=>undef
inductive RD (ν:List (Nat×Nat))(x:X):Value->D->Prop
 |any (v:Value):RD ν x v .any
 |bool (b:Bool):RD ν x (.bool b) (.bool b)
 |int (k:IntKind) (n:Int):RD ν x (.int k n) (.int k n)
 |str (s:List UInt8) (h:s.length<=maxLen):RD ν x (.string ⟨⟨s⟩⟩) (.str s)
 |agg (cs:Array Value) (ds:List D) (hl:cs.size=ds.length) (h1:∀i,i<ds.length->(cs.getD i undef).oneCell'=true)
   (h:∀i,i<ds.length->RD ν x (cs.getD i undef) (ds.getD i .any)):RD ν x (.agg cs) (.agg ds)
 |tup (cs:Array Value) (ds:List D) (hl:cs.size=ds.length)
   (h:∀i,i<ds.length->RD ν x (cs.getD i undef) (ds.getD i .any)):RD ν x (.tuple cs) (.tup ds)
 |bM:RD ν x (.slice none 0 0) .bM
 |sl (a:Option Addr) (b off len cap k:Nat) (es:List D) (c:Nat->Nat->Value) (hlen:len=es.length)
   (ha:es=[]\/(a=some ⟨b,off,none⟩/\x.I b)) (hcap:len<=cap) (hm:cap<=maxLen)
   (hk:∀i,i<len->(es.getD i .any).cells.length=k) (hn:∀i,i<len->(es.getD i .any).aZ=true)
   (hc:∀i j,i<len->j<k->x.w.cell? ⟨b,off+i*k+j,none⟩=some (c i j))
   (h1:∀i j,i<len->j<k->(c i j).oneCell'=true)
   (h:∀i j,i<len->j<k->RD ν x (c i j) ((es.getD i .any).cells.getD j .any)):RD ν x (.slice a len cap) (.sl k es)
 |ref (b off k i o at_:Nat) (es:List D) (c:Nat->Nat->Value) (hI:x.I b) (hat:at_=off+i*k+o)
   (hk:∀i,i<es.length->(es.getD i .any).cells.length=k) (hn:∀i,i<es.length->(es.getD i .any).aZ=true)
   (hc:∀i j,i<es.length->j<k->x.w.cell? ⟨b,off+i*k+j,none⟩=some (c i j))
   (h1:∀i j,i<es.length->j<k->(c i j).oneCell'=true)
   (h:∀i j,i<es.length->j<k->RD ν x (c i j) ((es.getD i .any).cells.getD j .any)):RD ν x (.pointer (some ⟨b,at_,none⟩)) (.ref k es i o)
 |ptr (l k i o b base tot at_:Nat) (hβ:x.β l=some (b,base,tot)) (hat:at_=base+i*k+o):RD ν x (.pointer (some ⟨b,at_,none⟩)) (.ptr l k i o)
 |own (l k i n b base tot cap:Nat) (a:Addr) (hβ:x.β l=some (b,base,tot)) (ha:0<cap->a=⟨b,base+i*k,none⟩)
   (hcap:n<=cap) (hm:cap<=maxLen) (ht:i+cap<=tot):RD ν x (.slice (some a) n cap) (.own l k i n)
 |own0 (l k i:Nat) (a:Option Addr):RD ν x (.slice a 0 0) (.own l k i 0)
 |nilp:RD ν x (.pointer none) .nilp
 |fn (fid n:Nat) (cs:Array Value) (ds:List D) (hν:dp ν fid=some n) (hl:cs.size=ds.length)
   (h:∀i,i<ds.length->RD ν x (cs.getD i undef) (ds.getD i .any)):RD ν x (.func (.func fid) #[] cs) (.fn n ds)
 |ek (fid n:Nat) (fs:Array Value) (ds:List D) (hν:dp ν fid=some n) (hl:fs.size=ds.length)
   (h:∀i,i<ds.length->RD ν x (fs.getD i undef) (ds.getD i .any)):RD ν x (.func (.func fid) fs #[]) (.fn (n+1000000) ds)
 |nilf:RD ν x .nilFunc .nilf
 |mp (r:Nat) (es:Array MapEntry) (cl:Nat) (ds:List D) (hI:x.I r) (hh:x.w.heap[r]? =some (.map es cl)) (hl:2*es.size=ds.length)
   (h:∀i,i<ds.length->RD ν x (Bp es.toList i) (ds.getD i .any)):RD ν x (.map (some r)) (.fn 2000000 ds)
 |bx (b at_:Nat) (ds:List D) (v:Value) (hI:x.I b) (hc:x.w.cell? ⟨b,at_,none⟩=some v) (h1:v.oneCell'=true) (hl:ds.length=1)
   (h:∀i,i<ds.length->RD ν x v (ds.getD i .any)):RD ν x (.pointer (some ⟨b,at_,none⟩)) (.fn 3000000 ds)
 |ifc (t n:Nat) (v:Value) (ds:List D) (hν:dp ν (1000000000+t)=some (500000+n)) (hn:n<500000) (hl:ds.length=1)
   (h:∀i,i<ds.length->RD ν x v (ds.getD i .any)):RD ν x (.iface t v) (.fn (n+4000000) ds)
 |ifn:RD ν x .nilIface (.fn 4600000 [])
 |mpn:RD ν x (.map none) (.fn 5100000 [])
 |zp (a:Addr):RD ν x (.pointer (some a)) (.fn 4700000 [])
 |im (l b base tot:Nat) (hβ:x.β l=some (b,base,tot)):RD ν x (.map (some b)) (.fn 5000000 [.it l])
 |it (l b base tot:Nat) (hβ:x.β l=some (b,base,tot)):RD ν x (.pointer (some ⟨b,0,none⟩)) (.it l)
section
variable {ν:List (Nat×Nat)} {x x':X}
structure Le (x x':X):Prop where
 I:∀b,x.I b->x'.I b
 lK:∀b,x.I b->x'.w.heap[b]? =x.w.heap[b]?
 β:∀l p,x.β l=some p->x'.β l=some p
theorem gU {w w':World}{b o:Nat}{v:Value}(h:w'.heap[b]? =w.heap[b]?)(hc:w.cell? ⟨b,o,none⟩=some v):w'.cell? ⟨b,o,none⟩=some v:=by
 rw[<-hc];unfold World.cell?;simp only[h]
def Le.refl (x:X):Le x x:=⟨fun _ h=>h,fun _ _=>rfl,fun _ _ h=>h⟩
def Le.trans {x'':X}(h:Le x x')(h':Le x' x''):Le x x'':=
 ⟨fun b hb=>h'.I b (h.I b hb),fun b hb=>(h'.lK b (h.I b hb)).trans (h.lK b hb),fun l p hp=>h'.β l p (h.β l p hp)⟩
def RD.mono {v:Value}{d:D}(h:RD ν x v d)(hl:Le x x'):RD ν x' v d:=by
 induction h with
 |any v=>exact .any v
 |bool b=>exact .bool b
 |int k n=>exact .int k n
 |str s h=>exact .str s h
 |agg cs ds hl' h1 _ ih=>exact .agg cs ds hl' h1 ih
 |tup cs ds hl' _ ih=>exact .tup cs ds hl' ih
 |bM=>exact .bM
 |sl a b off len cap k es c hlen ha hcap hm hk hn hc h1 _ ih=>
  refine .sl a b off len cap k es c hlen (ha.imp id fun⟨p,q⟩=>⟨p,hl.I _ q⟩) hcap hm hk hn (fun i j hi hj=>?_) h1 ih;rcases ha with rfl|⟨_,hI⟩
  .simp at hlen;omega
  .exact gU (hl.lK _ hI) (hc i j hi hj)
 |ref b off k i o at_ es c hI hat hk hn hc h1 _ ih=>
  exact .ref b off k i o at_ es c (hl.I _ hI) hat hk hn (fun i j hi hj=>gU (hl.lK _ hI) (hc i j hi hj)) h1 ih
 |ptr l k i o b base tot at_ hβ hat=>exact .ptr l k i o b base tot at_ (hl.β _ _ hβ) hat
 |own l k i n b base tot cap a hβ ha hcap hm ht=>exact .own l k i n b base tot cap a (hl.β _ _ hβ) ha hcap hm ht
 |own0 l k i a=>exact .own0 l k i a
 |nilp=>exact .nilp
 |fn fid n cs ds hν hl' _ ih=>exact .fn fid n cs ds hν hl' ih
 |ek fid n cs ds hν hl' _ ih=>exact .ek fid n cs ds hν hl' ih
 |nilf=>exact .nilf
 |mp r es cl ds hI hh hl' _ ih=>exact .mp r es cl ds (hl.I _ hI) ((hl.lK _ hI).trans hh) hl' ih
 |bx b at_ ds v hI hc h1 hl' _ ih=>exact .bx b at_ ds v (hl.I _ hI) (gU (hl.lK _ hI) hc) h1 hl' ih
 |ifc t n v ds hν hn hl' _ ih=>exact .ifc t n v ds hν hn hl' ih
 |ifn=>exact .ifn
 |mpn=>exact .mpn
 |zp a=>exact .zp a
 |im l b base tot hβ=>exact .im l b base tot (hl.β _ _ hβ)
 |it l b base tot hβ=>exact .it l b base tot (hl.β _ _ hβ)
def cH:∀{ds:List D},aR ds=true->∀i,(ds.getD i .any).aZ=true
 |[],_,i=>by simp[D.aZ]
 |d::r,h,0=>by simp[aR]at h;simpa using h.1
 |d::r,h,i+1=>by simp[aR]at h;simpa using cH h.2 i
def jb:∀{ds:List D},lN ds=true->∀i,(ds.getD i .any).eG=true
 |[],_,i=>by simp[D.eG]
 |d::r,h,0=>by simp[lN]at h;simpa using h.1
 |d::r,h,i+1=>by simp[lN]at h;simpa using jb h.2 i
def px:∀{ds:List D},(∀i,i<ds.length->(ds.getD i .any).aZ=true)->aR ds=true
 |[],_=>rfl
 |d::r,h=>by
  simp only[aR,br];exact⟨by simpa using h 0 bg,px fun i hi=>by simpa using h (i+1) dH⟩
def j1 {d:D}(h:d.aZ=true)(j:Nat):(d.cells.getD j .any).aZ=true:=by
 cases d<;>simp only[D.cells]<;>first
  |(simp only[D.aZ]at h;exact cH h j)
  |(cases j<;>simp_all[D.aZ])
def RD.aZ {v:Value}{d:D}(h:RD ν x v d)(hn:d.aZ=true)(hI:∀b,x.I b->x'.I b)(hk:∀b,x.I b->x'.w.heap[b]? =x.w.heap[b]?):RD ν x' v d:=by
 induction h with
 |any v=>exact .any v
 |bool b=>exact .bool b
 |int k n=>exact .int k n
 |str s h=>exact .str s h
 |agg cs ds hl' h1 _ ih=>exact .agg cs ds hl' h1 fun i hi=>ih i hi (cH (by simpa[D.aZ]using hn) i)
 |tup cs ds hl' _ ih=>exact .tup cs ds hl' fun i hi=>ih i hi (cH (by simpa[D.aZ]using hn) i)
 |bM=>exact .bM
 |sl a b off len cap k es c hlen ha hcap hm hk' hn' hc h1 _ ih=>
  refine .sl a b off len cap k es c hlen (ha.imp id fun⟨p,q⟩=>⟨p,hI _ q⟩) hcap hm hk' hn' (fun i j hi hj=>?_) h1 fun i j hi hj=>ih i j hi hj (j1 (hn' i hi) j)
  grind [gU]
 |ref b off k i o at_ es c hIb hat hk' hn' hc h1 _ ih=>
  exact .ref b off k i o at_ es c (hI _ hIb) hat hk' hn' (fun i j hi hj=>gU (hk _ hIb) (hc i j hi hj)) h1 fun i j hi hj=>ih i j hi hj (j1 (hn' i hi) j)
 |ptr=>simp[D.aZ]at hn
 |own=>simp[D.aZ]at hn
 |own0=>simp[D.aZ]at hn
 |nilp=>exact .nilp
 |fn fid n cs ds hν hl' _ ih=>exact .fn fid n cs ds hν hl' fun i hi=>ih i hi (cH (by simpa[D.aZ]using hn) i)
 |ek fid n cs ds hν hl' _ ih=>exact .ek fid n cs ds hν hl' fun i hi=>ih i hi (cH (by simpa[D.aZ]using hn) i)
 |nilf=>exact .nilf
 |mp r es cl ds hIr hh hl' _ ih=>exact .mp r es cl ds (hI _ hIr) ((hk _ hIr).trans hh) hl' fun i hi=>ih i hi (cH (by simpa[D.aZ]using hn) i)
 |bx b at_ ds v hIr hc h1 hl' _ ih=>exact .bx b at_ ds v (hI _ hIr) (gU (hk _ hIr) hc) h1 hl' fun i hi=>ih i hi (cH (by simpa[D.aZ]using hn) i)
 |ifc t n v ds hν hnn hl' _ ih=>exact .ifc t n v ds hν hnn hl' fun i hi=>ih i hi (cH (by simpa[D.aZ]using hn) i)
 |ifn=>exact .ifn
 |mpn=>exact .mpn
 |zp a=>exact .zp a
 |im=>simp[D.aZ,aR]at hn
 |it=>simp[D.aZ]at hn
def RD.eG {v:Value}{d:D}(h:RD ν x v d)(hn:d.eG=true):RD ν x' v d:=by
 induction h with
 |any v=>exact .any v
 |bool b=>exact .bool b
 |int k n=>exact .int k n
 |str s h=>exact .str s h
 |agg cs ds hl' h1 _ ih=>exact .agg cs ds hl' h1 fun i hi=>ih i hi (jb (by simpa[D.eG]using hn) i)
 |tup cs ds hl' _ ih=>exact .tup cs ds hl' fun i hi=>ih i hi (jb (by simpa[D.eG]using hn) i)
 |bM=>exact .bM
 |sl=>simp[D.eG]at hn
 |ref=>simp[D.eG]at hn
 |ptr=>simp[D.eG]at hn
 |own=>simp[D.eG]at hn
 |own0=>simp[D.eG]at hn
 |nilp=>exact .nilp
 |fn fid n cs ds hν hl' _ ih=>exact .fn fid n cs ds hν hl' fun i hi=>ih i hi (jb (by simp[D.eG]at hn;exact hn.2) i)
 |ek fid n cs ds hν hl' _ ih=>exact .ek fid n cs ds hν hl' fun i hi=>ih i hi (jb (by simp[D.eG]at hn;exact hn.2) i)
 |nilf=>exact .nilf
 |mp=>simp[D.eG]at hn
 |bx=>simp[D.eG]at hn
 |ifc t n v ds=>simp[D.eG,show Nat.ble 2000000 (n+4000000)=true from(by rw[Nat.ble_eq];omega)]at hn
 |ifn=>exact .ifn
 |mpn=>exact .mpn
 |zp a=>exact .zp a
 |im=>simp[D.eG]at hn
 |it=>simp[D.eG]at hn
theorem RD.cells {v:Value}{d:D}(h:RD ν x v d)(hd:0<d.cells.length):
  v.cells.size=d.cells.length/\∀j,j<d.cells.length->(v.cells.getD j undef).oneCell'=true/\RD ν x (v.cells.getD j undef) (d.cells.getD j .any):=by
 cases h with
 |any=>simp[D.cells]at hd
 |tup=>simp[D.cells]at hd
 |agg cs ds hl h1 h=>exact⟨hl,fun j hj=>⟨h1 j hj,h j hj⟩⟩
 |bool b=>exact⟨rfl,fun j hj=>by simp[D.cells]at hj;subst hj;exact⟨rfl,.bool b⟩⟩
 |int k n=>exact⟨rfl,fun j hj=>by simp[D.cells]at hj;subst hj;exact⟨rfl,.int k n⟩⟩
 |str s h=>exact⟨rfl,fun j hj=>by simp[D.cells]at hj;subst hj;exact⟨rfl,.str s h⟩⟩
 |bM=>exact⟨rfl,fun j hj=>by simp[D.cells]at hj;subst hj;exact⟨rfl,.bM⟩⟩
 |sl a b off len cap k es c hlen ha hcap hm hk hn hc h1 h=>exact⟨rfl,fun j hj=>by simp[D.cells]at hj;subst hj;exact⟨rfl,.sl a b off len cap k es c hlen ha hcap hm hk hn hc h1 h⟩⟩
 |ref b off k i o at_ es c hI hat hk hn hc h1 h=>exact⟨rfl,fun j hj=>by simp[D.cells]at hj;subst hj;exact⟨rfl,.ref b off k i o at_ es c hI hat hk hn hc h1 h⟩⟩
 |ptr l k i o b base tot at_ hβ hat=>exact⟨rfl,fun j hj=>by simp[D.cells]at hj;subst hj;exact⟨rfl,.ptr l k i o b base tot at_ hβ hat⟩⟩
 |own l k i n b base tot cap a hβ ha hcap hm ht=>exact⟨rfl,fun j hj=>by simp[D.cells]at hj;subst hj;exact⟨rfl,.own l k i n b base tot cap a hβ ha hcap hm ht⟩⟩
 |own0 l k i a=>exact⟨rfl,fun j hj=>by simp[D.cells]at hj;subst hj;exact⟨rfl,.own0 l k i a⟩⟩
 |nilp=>exact⟨rfl,fun j hj=>by simp[D.cells]at hj;subst hj;exact⟨rfl,.nilp⟩⟩
 |fn fid n cs ds hν hl h=>exact⟨rfl,fun j hj=>by simp[D.cells]at hj;subst hj;exact⟨rfl,.fn fid n cs ds hν hl h⟩⟩
 |ek fid n cs ds hν hl h=>exact⟨rfl,fun j hj=>by simp[D.cells]at hj;subst hj;exact⟨rfl,.ek fid n cs ds hν hl h⟩⟩
 |nilf=>exact⟨rfl,fun j hj=>by simp[D.cells]at hj;subst hj;exact⟨rfl,.nilf⟩⟩
 |mp r es cl ds hI hh hl h=>exact⟨rfl,fun j hj=>by simp[D.cells]at hj;subst hj;exact⟨rfl,.mp r es cl ds hI hh hl h⟩⟩
 |bx b at_ ds v hI hc h1 hl h=>exact⟨rfl,fun j hj=>by simp[D.cells]at hj;subst hj;exact⟨rfl,.bx b at_ ds v hI hc h1 hl h⟩⟩
 |ifc t n v ds hν hn hl h=>exact⟨rfl,fun j hj=>by simp[D.cells]at hj;subst hj;exact⟨rfl,.ifc t n v ds hν hn hl h⟩⟩
 |ifn=>exact⟨rfl,fun j hj=>by simp[D.cells]at hj;subst hj;exact⟨rfl,.ifn⟩⟩
 |mpn=>exact⟨rfl,fun j hj=>by simp[D.cells]at hj;subst hj;exact⟨rfl,.mpn⟩⟩
 |zp a=>exact⟨rfl,fun j hj=>by simp[D.cells]at hj;subst hj;exact⟨rfl,.zp a⟩⟩
 |im l b base tot hβ=>exact⟨rfl,fun j hj=>by simp[D.cells]at hj;subst hj;exact⟨rfl,.im l b base tot hβ⟩⟩
 |it l b base tot hβ=>exact⟨rfl,fun j hj=>by simp[D.cells]at hj;subst hj;exact⟨rfl,.it l b base tot hβ⟩⟩
end
end
section
section
variable {ν:List (Nat×Nat)} {x x':X}
def RQ (j:Nat):Value:=if j<3 then .int .i64 0 else .string ⟨⟨[]⟩⟩
class di where
 tB:TypeId:=0
 tU:TypeId:=0
 gd:X->Prop
 le:∀x x':X,(∀b,x.I b->x'.I b)->(∀b,x.I b->x'.w.heap[b]? =x.w.heap[b]?)->gd x->gd x'
 gz:Nat->Prop:=fun _=>False
 gzr:∀(x:X) (g:Nat),gd x->gz g->∀j,j<5->x.w.cell? ⟨g,j,none⟩=some (RQ j):=by exact fun _ _ _ h=>h.elim
variable [di]
def mG (ν:List (Nat×Nat))(x:X)(b base tot:Nat):bL->Prop
 | .buf k es=>0<k/\es.length<=tot/\∃c T fr,x.w.heap[b]? =some (.cells c T fr)/\base+tot*k<=c.size/\
   (∀o,o<c.size->¬(fr.1<=o/\o<fr.2))/\
   ∀i,i<es.length->(es.getD i .any).cells.length=k/\∀j,j<k->
    (c.getD (base+i*k+j) undef).oneCell'=true/\RD ν x (c.getD (base+i*k+j) undef) ((es.getD i .any).cells.getD j .any)
 | .iter s pos=>x.w.heap[b]? =some (.stringIter ⟨⟨s⟩⟩ pos)/\s.length<=maxLen
 | .row s=>base=0/\∃c,x.w.heap[b]? =some (.cells c di.tU (0,0))/\c.size=tot/\tot<=maxLen/\s.length<=tot/\∀i,i<s.length->c.getD i undef=.int .u8 (s.getD i 0).toNat
 | .bld o n u=>base=0/\∃v,x.w.heap[b]? =some (.cells #[.pointer (if u=true then some ⟨b,0,none⟩else none),v] di.tB (0,0))/\
   match o with
   |none=>n=0/\v=.slice none 0 0
   |some l=>∃g t,v=.slice (some ⟨g,0,none⟩) n t/\n<=t/\x.β l=some (g,0,t)
 | .mpb kvs=>aR kvs=true/\∃es cl,x.w.heap[b]? =some (.map es cl)/\2*es.size=kvs.length/\(es.toList.map (·.key)).Nodup/\∀i,i<kvs.length->RD ν x (Bp es.toList i) (kvs.getD i .any)
def og (h:Le x x')(hg:di.gd x):di.gd x':=di.le x x' h.I h.lK hg
structure eK (ν:List (Nat×Nat))(x:X)(f:Nat->Option bL):Prop where
 own:∀l blk b base tot,f l=some blk->x.β l=some (b,base,tot)->¬x.I b/\mG ν x b base tot blk
 inj:∀l l' b base tot base' tot',f l≠none->f l'≠none->x.β l=some (b,base,tot)->x.β l'=some (b,base',tot')->l=l'
 imm:∀b,x.I b->b<x.w.heap.size
 ek:∀l b base tot,x.β l=some (b,base,tot)->b<x.w.heap.size
 gd:di.gd x
structure Step (x x':X):Prop where
 os:x'.w.os=x.w.os
 tape:x'.w.tape=x.w.tape
 output:x'.w.output=x.w.output
 size:x.w.heap.size<=x'.w.heap.size
 I:∀b,x.I b->x'.I b
 lK:∀b,x.I b->x'.w.heap[b]? =x.w.heap[b]?
 β:∀l p,x.β l=some p->x'.β l=some p
 old:∀b,b<x.w.heap.size->(∀l p,x.β l=some p->p.1≠b)->x'.w.heap[b]? =x.w.heap[b]?
 newI:∀b,x'.I b->x.I b\/x.w.heap.size<=b\/∃l p,x.β l=some p/\p.1=b
 newβ:∀l p,x'.β l=some p->x.β l=some p\/x.w.heap.size<=p.1\/∃l' p',x.β l'=some p'/\p'.1=p.1
def Step.le (h:Step x x'):Le x x':=⟨h.I,h.lK,h.β⟩
def Step.refl (x:X):Step x x:=⟨rfl,rfl,rfl,aM _,fun _ h=>h,fun _ _=>rfl,fun _ _ h=>h,fun _ _ _=>rfl,fun _ h=>.inl h,fun _ _ h=>.inl h⟩
def Step.trans {x'':X}(h:Step x x')(h':Step x' x''):Step x x'':=by
 refine⟨h'.os.trans h.os,h'.tape.trans h.tape,h'.output.trans h.output,eP h.size h'.size,fun b hb=>h'.I b (h.I b hb),
  fun b hb=>(h'.lK b (h.I b hb)).trans (h.lK b hb),fun l p hp=>h'.β l p (h.β l p hp), ?_, ?_, ?_⟩
 .intro b hb hn;refine(h'.old b (iV hb h.size) ?_).trans (h.old b hb hn);intro l p hp e;rcases h.newβ l p hp with h1|h1|⟨l',p',h1,h2⟩
  .exact hn l p h1 e
  .omega
  .exact hn l' p' h1 (h2.trans e)
 .intro b hb;rcases h'.newI b hb with h1|h1|⟨l,p,h1,h2⟩
  .exact h.newI b h1
  .exact .inr (.inl (eP h.size h1))
  .rcases h.newβ l p h1 with h3|h3|⟨l',p',h3,h4⟩
   .exact .inr (.inr ⟨l,p,h3,h2⟩)
   .exact .inr (.inl (h2▸h3))
   .exact .inr (.inr ⟨l',p',h3,h4.trans h2⟩)
 .intro l p hp;rcases h'.newβ l p hp with h1|h1|⟨l',p',h1,h2⟩
  .exact h.newβ l p h1
  .exact .inr (.inl (eP h.size h1))
  .rcases h.newβ l' p' h1 with h3|h3|⟨l'',p'',h3,h4⟩
   .exact .inr (.inr ⟨l',p',h3,h2⟩)
   .exact .inr (.inl (h2▸h3))
   .exact .inr (.inr ⟨l'',p'',h3,h4.trans h2⟩)
def mG.mono {b base tot:Nat}{blk:bL}(h:mG ν x b base tot blk)(hl:Le x x')(hb:x'.w.heap[b]? =x.w.heap[b]?):mG ν x' b base tot blk:=by
 cases blk with
 |buf k es=>
  obtain⟨hk,ht,c,T,fr,h1,h2,h3,h4⟩:=h;exact⟨hk,ht,c,T,fr,hb.trans h1,h2,h3,fun i hi=>⟨(h4 i hi).1,fun j hj=>⟨((h4 i hi).2 j hj).1,((h4 i hi).2 j hj).2.mono hl⟩⟩⟩
 |iter s pos=>exact⟨hb.trans h.1,h.2⟩
 |row s=>
  obtain⟨h0,c,h1,h2⟩:=h;exact⟨h0,c,hb.trans h1,h2⟩
 |mpb kvs=>
  obtain⟨h0,es,cl,h1,h2,h3,h4⟩:=h;exact⟨h0,es,cl,hb.trans h1,h2,h3,fun i hi=>(h4 i hi).mono hl⟩
 |bld o n u=>
  obtain⟨h0,v,h1,h2⟩:=h;refine⟨h0,v,hb.trans h1, ?_⟩;cases o with
  |none=>exact h2
  |some l=>
   obtain⟨g,t,h3,h4,h5⟩:=h2;exact⟨g,t,h3,h4,hl.β _ _ h5⟩
structure fU (w w':World):Prop where
 os:w'.os=w.os
 tape:w'.tape=w.tape
 output:w'.output=w.output
 size:w.heap.size<=w'.heap.size
 old:∀b,b<w.heap.size->w'.heap[b]? =w.heap[b]?
def fU.refl (w:World):fU w w:=⟨rfl,rfl,rfl,aM _,fun _ _=>rfl⟩
def kd (w:World)(o:Obj)(b:Nat)(hb:b<w.heap.size):(w.alloc o).heap[b]? =w.heap[b]? :=by
 simp only[World.alloc,Array.getElem?_push];rw[aj ah]
def ea (w:World)(o:Obj):(w.alloc o).heap[w.heap.size]? =some o:=by show(w.heap.push o)[w.heap.size]? =some o;simp
def fU.alloc (w:World)(o:Obj):fU w (w.alloc o):=⟨rfl,rfl,rfl,bg,fun b hb=>kd w o b hb⟩
def fU.trans {w w' w'':World}(h:fU w w')(h':fU w' w''):fU w w'':=
 ⟨h'.os.trans h.os,h'.tape.trans h.tape,h'.output.trans h.output,eP h.size h'.size,fun b hb=>(h'.old b (iV hb h.size)).trans (h.old b hb)⟩
def fU.drew (w:World):fU w w.drew:=⟨rfl,rfl,rfl,aM _,fun _ _=>rfl⟩
def Step.grow {w':World}(hw:fU x.w w')(himm:∀b,x.I b->b<x.w.heap.size):Step x ⟨w',x.I,x.β⟩:=
 ⟨hw.os,hw.tape,hw.output,hw.size,fun _ h=>h,fun b hb=>hw.old b (himm b hb),fun _ _ h=>h,fun b hb _=>hw.old b hb,fun _ h=>.inl h,fun _ _ h=>.inl h⟩
def eK.grow {f:Nat->Option bL}{w':World}(h:eK ν x f)(hw:fU x.w w'):eK ν ⟨w',x.I,x.β⟩ f:=
 ⟨fun l blk b base tot h1 h2=>⟨(h.own l blk b base tot h1 h2).1,(h.own l blk b base tot h1 h2).2.mono (Step.grow hw h.imm).le (hw.old b (h.ek l b base tot h2))⟩,
  h.inj,fun b hb=>iV (h.imm b hb) hw.size,fun l b base tot hb=>iV (h.ek l b base tot hb) hw.size,og (Step.grow hw h.imm).le h.gd⟩
def eu (β:Nat->Option (Nat×Nat×Nat))(L:Nat)(p:Nat×Nat×Nat):Nat->Option (Nat×Nat×Nat):=fun l=>if l=L then some p else β l
def iM (f:Nat->Option bL)(L:Nat)(b:Option bL):Nat->Option bL:=fun l=>if l=L then b else f l
def yv {w':World}{L n base tot:Nat}(hw:fU x.w w')(hn:x.w.heap.size<=n)(hL:x.β L=none)(himm:∀b,x.I b->b<x.w.heap.size):
  Step x ⟨w',x.I,eu x.β L (n,base,tot)⟩:=by
 refine⟨hw.os,hw.tape,hw.output,hw.size,fun _ h=>h,fun b hb=>hw.old b (himm b hb),fun l p hp=>?_,fun b hb _=>hw.old b hb,fun _ h=>.inl h,fun l p hp=>?_⟩
 .grind [eu]
 grind [eu]
def QX {f:Nat->Option bL}{w':World}{L n base tot:Nat}{blk:bL}(h:eK ν x f)(hw:fU x.w w')(hn:x.w.heap.size<=n)(hnw:n<w'.heap.size)(hL:x.β L=none)
  (hb:mG ν ⟨w',x.I,eu x.β L (n,base,tot)⟩ n base tot blk):eK ν ⟨w',x.I,eu x.β L (n,base,tot)⟩ (iM f L (some blk)):=by
 have hle:=(yv (base:=base) (tot:=tot) hw hn hL h.imm).le;refine⟨fun l blk' b base' tot' h1 h2=>?_,fun l l' b base' tot' base'' tot'' h1 h1' h2 h2'=>?_,fun b hb=>iV (h.imm b hb) hw.size,fun l b base' tot' h2=>?_,og hle h.gd⟩
 .by_cases e:l=L
  .subst e;simp only[eu,aY,aP,dm]at h2;simp only[iM,aY,aP]at h1;obtain⟨rfl,rfl,rfl⟩:=h2;subst h1;exact⟨fun hI=>by have:=h.imm _ hI;omega,hb⟩
  .simp only[eu,e,aS]at h2;simp only[iM,e,aS]at h1;obtain⟨a1,a2⟩:=h.own l blk' b base' tot' h1 h2;exact⟨a1,a2.mono hle (hw.old b (h.ek l b base' tot' h2))⟩
 .by_cases e:l=L<;>by_cases e':l'=L
  .exact e.trans e'.symm
  .simp only[eu,e,aY,aP,dm]at h2;simp only[eu,e',aS]at h2';have:=h.ek l' b base'' tot'' h2';obtain⟨h2,_,_⟩:=h2;omega
  .simp only[eu,e',aY,aP,dm]at h2';simp only[eu,e,aS]at h2;have:=h.ek l b base' tot' h2;obtain⟨h2',_,_⟩:=h2';omega
  .simp only[eu,e,aS]at h2;simp only[eu,e',aS]at h2';simp only[iM,e,aS]at h1;simp only[iM,e',aS]at h1';exact h.inj l l' b base' tot' base'' tot'' h1 h1' h2 h2'
 .by_cases e:l=L
  .simp only[eu,e,aY,aP,dm]at h2;obtain⟨h2,_,_⟩:=h2;show b<w'.heap.size;omega
  .simp only[eu,e,aS]at h2;exact iV (h.ek l b base' tot' h2) hw.size
variable {P:Program} {w:World}
def mK {t:TypeId}(h:P.cellsOf t≠0):∃i,P.info? t=some i/\i.size=P.cellsOf t:=by
 unfold Program.cellsOf at h⊢;cases hi:P.info? t with
 |none=>simp[hi]at h
 |some i=>exact⟨i,rfl,bg⟩
def dN {t:TypeId}(h:P.cellsOf t≠0):(sizeOf t).run P w=.ok (P.cellsOf t) w:=by
 obtain⟨i,hi,hs⟩:=mK h;simp[sizeOf,typeInfo,hi,hs]
def rh {t:TypeId}(h:(P.underlying t).isNone=false):(isAgg t).run P w=.ok (cI P t) w:=by
 cases hu:P.underlying t with
 |none=>simp[hu]at h
 |some d=>unfold isAgg cI;rw[Sem.run_bind,run_underlying hu w];simp only[hu,Result.andThen];cases d<;>rfl
theorem Addr.uC (b o n:Nat):(⟨b,o,none⟩:Addr).add n=⟨b,o+n,none⟩:=by unfold Addr.add;split<;>simp_all
end
end
section
variable [di]
section
variable {ν:List (Nat×Nat)} {x:X} {f:Nat->Option bL} {P:Program}
mutual
theorem k9:∀(v:Value) (d:D),de v=some d->RD ν x v d
 | .bool b,d,h=>by simp[de]at h;subst h;exact .bool b
 | .int k n,d,h=>by simp[de]at h;subst h;exact .int k n
 | .string ⟨⟨s⟩⟩,d,h=>by
  simp only[de]at h;split at h
  .rename_i hs;simp only[aP]at h;subst h;exact .str s (by simpa[maxLen,ByteArray.size]using hs)
  .cases h
 | .pointer none,d,h=>by simp[de]at h;subst h;exact .nilp
 | .slice none 0 0,d,h=>by simp[de]at h;subst h;exact .bM
 | .nilFunc,d,h=>by simp[de]at h;subst h;exact .nilf
 | .nilIface,d,h=>by simp[de]at h;subst h;exact .ifn
 | .map none,d,h=>by simp[de]at h;subst h;exact .mpn
 | .agg ⟨cs⟩,d,h=>by
  simp only[de]at h;split at h
  .rename_i hone;cases hc:pQ cs with
   |none=>simp[hc]at h
   |some ds=>
    simp[hc]at h;subst h;obtain⟨hl,hr⟩:=qq cs ds hc;refine .agg ⟨cs⟩ ds (by simpa using hl) (fun i hi=>?_) (fun i hi=>by simpa using hr i hi);have:=oT cs hone i ah;simpa using this
  .cases h
 | .float _ _,d,h=>by simp[de]at h
 | .complex _ _ _,d,h=>by simp[de]at h
 | .pointer (some _),d,h=>by simp[de]at h
 | .slice (some _) _ _,d,h=>by simp[de]at h
 | .slice none (_+1) _,d,h=>by simp[de]at h
 | .slice none 0 (_+1),d,h=>by simp[de]at h
 | .map (some _),d,h=>by simp[de]at h
 | .chan _,d,h=>by simp[de]at h
 | .func _ _ _,d,h=>by simp[de]at h
 | .iface _ _,d,h=>by simp[de]at h
 | .tuple _,d,h=>by simp[de]at h
theorem qq:∀(vs:List Value) (ds:List D),pQ vs=some ds->vs.length=ds.length/\∀i,i<ds.length->RD ν x (vs.getD i undef) (ds.getD i .any)
 |[],ds,h=>by simp[pQ]at h;subst h;simp
 |v::r,ds,h=>by
  simp only[pQ]at h;split at h
  .rename_i d ds' h1 h2;simp only[aP]at h;subst h;have a:=k9 v d h1;obtain⟨b1,b2⟩:=qq r ds' h2;refine⟨by simp[b1],fun i hi=>?_⟩;cases i with
   |zero=>simpa using a
   |succ i=>simpa using b2 i (by simpa using hi)
  .cases h
theorem oT:∀(vs:List Value),rM vs=true->∀i,i<vs.length->(vs.getD i undef).oneCell'=true
 |[],_,i,hi=>by simp at hi
 |v::r,h,i,hi=>by
  simp only[rM,br]at h;cases i with
  |zero=>simp;cases v<;>simp_all[Value.oneCell']
  |succ i=>simpa using oT r h.2 i (by simpa using hi)
end
def uB (ν:List (Nat×Nat))(x:X)(f:Nat->Option bL)(L:Nat)(d:D)(r:Result Next):Prop:=
 ∃v x',(r=.ok (.value v) x'.w\/r=.ok .skip x'.w/\v=undef)/\Step x x'/\RD ν x' v d/\eK ν x' f/\∀l,l≠L->x'.β l=x.β l
def lG {L:Nat}{d:D}{v:Value}{r:Result Next}(hs:eK ν x f)(hr:r=.ok (.value v) x.w)(hd:RD ν x v d):uB ν x f L d r:=
 ⟨v,x,.inl hr,.refl x,hd,hs,fun _ _=>rfl⟩
def pM (C:CC)(defs:List (Option Nat))(J:Src->bI)(ev:Operand->Value)(x:X)(os:List Operand):Prop:=
 ∀o,o∈os->∀s,C.src defs o=some s->(J s).ok=true->RD C.ν x (ev o) (J s).d
def RD.iW {v:Value}{b:Bool}(h:RD ν x v (.bool b)):v=.bool b:=by cases h;rfl
def RD.dK {v:Value}{k:IntKind}{n:Int}(h:RD ν x v (.int k n)):v=.int k n:=by cases h;rfl
def RD.ic {v:Value}{s:List UInt8}(h:RD ν x v (.str s)):v=.string ⟨⟨s⟩⟩/\s.length<=maxLen:=by cases h;exact⟨rfl,‹_›⟩
def RD.pick {b:Bool}{u v:Value}{d e:D}(h1:b=true->RD ν x u d)(h2:b=false->RD ν x v e):RD ν x (if b then u else v) (D.pick b d e):=by
 cases b
 .have:=h2 rfl;simp only[iG,aS];cases d<;>cases e<;>simp only[D.pick,cond_false]<;>exact this
 .have:=h1 rfl;simp only[aY];cases d<;>cases e<;>simp only[D.pick,cond_true]<;>exact this
def Eh {op:BinOp}{t:TypeId}{k k':IntKind}{a b:Int}(w:World)(hb:iu op (.int k a) (.int k' b)):
  ∃v,(binOp op t (.int k a) (.int k' b)).run P w=.ok v w/\RD ν x v (jh op (.int k a) (.int k' b)):=by
 cases op<;>simp only[iu]at hb<;>simp only[binOp,jh,ne_eq]
 case shl=>exact⟨_,by simp[Op.shift,show ¬b<0 by omega],.int _ _⟩
 case shr=>exact⟨_,by simp[Op.shift,show ¬b<0 by omega],.int _ _⟩
 case quo=>obtain⟨rfl,hb⟩:=hb;exact⟨_,by simp[Op.intDiv,hb],.int _ _⟩
 case rem=>obtain⟨rfl,hb⟩:=hb;exact⟨_,by simp[Op.intDiv,hb],.int _ _⟩
 case and=>subst hb;exact⟨_,by simp[Op.intBits],.int _ _⟩
 case or=>subst hb;exact⟨_,by simp[Op.intBits],.int _ _⟩
 case xor=>subst hb;exact⟨_,by simp[Op.intBits],.int _ _⟩
 case andNot=>subst hb;exact⟨_,by simp[Op.intBits],.int _ _⟩
 case add=>subst hb;exact⟨_,by simp[Op.intArith],.int _ _⟩
 case sub=>subst hb;exact⟨_,by simp[Op.intArith],.int _ _⟩
 case mul=>subst hb;exact⟨_,by simp[Op.intArith],.int _ _⟩
 case eql=>subst hb;exact⟨_,by simp[Op.intCmp],.bool _⟩
 case neq=>subst hb;exact⟨_,by simp[Op.intCmp],.bool _⟩
 case lss=>subst hb;exact⟨_,by simp[Op.intCmp],.bool _⟩
 case leq=>subst hb;exact⟨_,by simp[Op.intCmp],.bool _⟩
 case gtr=>subst hb;exact⟨_,by simp[Op.intCmp],.bool _⟩
 case geq=>subst hb;exact⟨_,by simp[Op.intCmp],.bool _⟩
def AQ (a b:List UInt8):(⟨⟨a⟩⟩:ByteArray)++⟨⟨b⟩⟩=⟨⟨a++b⟩⟩:=by
 have h:((⟨⟨a⟩⟩:ByteArray)++⟨⟨b⟩⟩).data=(⟨a++b⟩:Array UInt8):=by
  rw[ByteArray.data_append];simp
 exact aC ByteArray.mk h
def Ei {op:BinOp}{t:TypeId}{a b:List UInt8}(w:World)(hb:iu op (.str a) (.str b)):
  ∃v,(binOp op t (.string ⟨⟨a⟩⟩) (.string ⟨⟨b⟩⟩)).run P w=.ok v w/\RD ν x v (jh op (.str a) (.str b)):=by
 have hs:∀l:List UInt8,(⟨⟨l⟩⟩:ByteArray).size=l.length:=fun _=>rfl
 cases op<;>simp only[iu]at hb<;>simp only[binOp,jh]
 case add=>
  refine⟨.string ⟨⟨a++b⟩⟩, ?_,.str _ (by simp[maxLen];omega)⟩;have:¬(((⟨⟨a⟩⟩:ByteArray).size+(⟨⟨b⟩⟩:ByteArray).size:Nat):Int)>IntKind.i64.max:=by
   rw[hs,hs];simp only[IntKind.max,IntKind.signed,IntKind.bits,aY];omega
  simp only[Op.stringOp,this,aS,Sem.run_pure,AQ]
 all_goals
  refine⟨_,by simp only[Op.stringOp,Sem.run_pure];rfl, ?_⟩;simp only[ByteArray.toList_eq];exact .bool _
def kn (op:BinOp)(t:TypeId)(p q:Operand){u v:Value}(h:(∀cs,u≠.agg cs)/\u≠.nilIface)(w:World):(eqGuard op t p q u v).run P w=.ok () w:=by
 obtain⟨h1,h2⟩:=h;unfold eqGuard;cases op<;>simp<;>(split<;>first|rfl|simp_all)
def ef {α:Type}(l:List α)(o n:Nat)(d:α)(j:Nat)(hj:j<n):((l.drop o).take n).getD j d=l.getD (o+j) d:=by
 grind
def gr {α:Type}(l:List α)(o n:Nat)(h:o+n<=l.length):((l.drop o).take n).length=n:=by
 simp;omega
theorem cB (cs:Array Value)(i:Nat)(d:Value):cs.toList.getD i d=cs.getD i d:=by
 simp[List.getD,Array.getD];split<;>simp_all
def nn {t:TypeId}{cs:Array Value}{ds:List D}{off n:Nat}{ag:Bool}(w:World)(hv:RD ν x (.agg cs) (.agg ds))(ht:P.cellsOf t≠0)(hu:(P.underlying t).isNone=false)
  (hn:n=P.cellsOf t) (hag:ag=cI P t) (hle:off+n<=ds.length) (h1:ag=false->n=1):
  ∃v,(part t cs off).run P w=.ok v w/\RD ν x v (cut ds off n ag):=by
 cases hv with
 |agg _ _ hl hone h=>
  unfold part;rw[Sem.run_bind,rh hu];subst hag;cases hb:cI P t
  .have hn1:=h1 (by rw[hb]);have hlt:off<cs.size:=ah;refine⟨cs.getD off undef, ?_, ?_⟩
   .simp[Result.andThen,Array.getElem?_eq_getElem hlt,Array.getD,hlt]
   .simp only[cut,cond_false];exact h off ah
  .refine⟨.agg (cs.extract off (off+n)), ?_, ?_⟩
   .simp[Result.andThen,dN ht,hn]
   .simp only[cut,cond_true];refine .agg _ _ ?_ ?_ ?_
    .simp;omega
    .intro i hi;simp at hi;have:=hone (off+i) ah;rw[<-this];congr 1;simp[Array.getD,show off+i<cs.size by omega,show i<min (off+n) cs.size-off by omega]
    .intro i hi;simp at hi;rw[ef _ _ _ _ _ ah];have:=h (off+i) ah;have e:(cs.extract off (off+n)).getD i undef=cs.getD (off+i) undef:=by
      simp[Array.getD,show off+i<cs.size by omega,show i<min (off+n) cs.size-off by omega]
     rw[e];exact this
end
end
section
variable [di]
section
variable {x:X} {f:Nat->Option bL} {C:CC} {defs:List (Option Nat)} {J:Src->bI} {ev:Operand->Value} {Y:Ctx} {m:List (Nat×bL)} {L:Nat}
def gM {os':List Operand}(hρ:pM C defs J ev x os'):∀(os:List Operand) (ss:List Src),(∀o∈os,o∈os')->C.rm defs os=some ss->sH J ss->
  os.length=ss.length/\(gV J ss).length=os.length/\∀i,i<(gV J ss).length->RD C.ν x ((os.map ev).getD i undef) ((gV J ss).getD i .any)
 |[],ss,_,h,_=>by simp[CC.rm]at h;subst h;simp[gV]
 |o::r,ss,hm,h,hk=>by
  simp only[CC.rm]at h;split at h
  .rename_i a l h1 h2;simp only[aP]at h;subst h;simp only[sH]at hk;obtain⟨b1,b2,b3⟩:=gM hρ r l (fun o ho=>hm o (.tail _ ho)) h2 hk.2;refine⟨by simp[b1],by simp[gV,b2],fun i hi=>?_⟩;cases i with
   |zero=>simpa[gV]using hρ o (hm o (.head _)) a h1 hk.1
   |succ i=>simpa[gV]using b3 i (by simpa[gV]using hi)
  .cases h
def wW (off:Nat):∀(new:List Value) (st:Nat) (acc:Array Value),off+st+new.length<=acc.size->
  ((new.zipIdx st).foldl (fun cs (c,j)=>cs.setIfInBounds (off+j) c) acc).size=acc.size/\
  ∀q,((new.zipIdx st).foldl (fun cs (c,j)=>cs.setIfInBounds (off+j) c) acc)[q]? =if off+st<=q/\q<off+st+new.length then new[q-(off+st)]? else acc[q]?
 |[],st,acc,_=>⟨bg,fun q=>dH⟩
 |c::r,st,acc,hb=>by
  simp only[aT]at hb;obtain⟨h1,h2⟩:=wW off r (st+1) (acc.setIfInBounds (off+st) c) dH;refine⟨by simpa[List.zipIdx_cons]using h1,fun q=>?_⟩;rw[List.zipIdx_cons,List.foldl_cons,h2 q]
  grind
def py {os':List Operand}(hρ:pM C defs J ev x os')(place:Nat->Option (Nat×Nat))(len:Nat):∀(ps:List (Nat×Operand)) (ss:List (Nat×Nat×Src)),
  (∀p∈ps,p.2∈os')->C.parts defs place ps=some ss->tY J len ss->∀(cs:Array Value) (ds:List D),cs.size=len->RD C.ν x (.agg cs) (.agg ds)->
  ∃cs',Instr.fill place cs (ps.map fun(i,o)=>(i,ev o))=some cs'/\RD C.ν x (.agg cs') (.agg (wS J ds ss))
 |[],ss,_,h,_,cs,ds,_,hr=>by simp[CC.parts]at h;subst h;exact⟨cs,by simp[Instr.fill],by simpa[wS]using hr⟩
 |(i,o)::r,ss,hm,h,hk,cs,ds,hlen,hr=>by
  simp only[CC.parts]at h;split at h
  .rename_i off n s l h1 h2 h3;split at h
   .cases h
   rename_i hn0;simp only[aP]at h;subst h;simp only[tY]at hk;obtain⟨k1,k2,k3,k4⟩:=hk;have hn:0<n:=ah;have hv:=hρ o (hm _ (.head _)) s h2 k1;obtain⟨c1,c2⟩:=hv.cells ah;have hsz:(ev o).cells.size=n:=ah;cases hr with
   |agg _ _ hl hone hh=>
   let cs1:Array Value:=((ev o).cells.toList.zipIdx 0).foldl (fun cs (c,j)=>cs.setIfInBounds (off+j) c) cs
   have harr:(ev o).cells.zipIdx.foldl (fun cs (c,j)=>cs.setIfInBounds (off+j) c) cs=cs1:=by
    rw[<-Array.foldl_toList];simp[cs1]
   have hcs1:=harr;obtain⟨hsz1,hgq⟩:=wW off (ev o).cells.toList 0 cs dH;have hget:∀q,q<cs.size->cs1.getD q undef=if q<off then cs.getD q undef else if q<off+n then(ev o).cells.getD (q-off) undef else cs.getD q undef:=by
    intro q hq;have:=hgq q;rw[<-cB,<-cB cs,<-cB (ev o).cells];simp only[List.getD,Array.getElem?_toList];rw[show cs1[q]? =_ from this];simp only[Array.length_toList,hsz,Nat.add_zero];by_cases q1:q<off
    .rw[ay q1,aj ah]
    .rw[aj q1];by_cases q2:q<off+n
     .rw[ay q2,ay ah];simp
     .rw[aj q2,aj ah]
   have hsz1:cs1.size=cs.size:=hsz1;have hdlen:(over ds off (J s).d.cells).length=ds.length:=by simp[over];omega
   have hdget:∀q,q<ds.length->(over ds off (J s).d.cells).getD q .any=if q<off then ds.getD q .any else if q<off+n then(J s).d.cells.getD (q-off) .any else ds.getD q .any:=by
    intro q hq;simp only[over,List.getD,List.getElem?_append,pH];by_cases q1:q<off
    .rw[ay ah,ay q1];simp[List.getElem?_take,q1]
    .rw[aj ah,aj q1,show q-min off ds.length=q-off by omega];by_cases q2:q<off+n
     .rw[ay q2,ay ah]
     .rw[aj q2,aj ah];simp only[List.getElem?_drop];congr 3;omega
   have hr1:RD C.ν x (.agg cs1) (.agg (over ds off (J s).d.cells)):=by
    refine .agg _ _ ah (fun q hq=>?_) (fun q hq=>?_)
    .rw[hdlen]at hq;rw[hget q ah];split
     .exact hone q hq
     .split
      .exact(c2 (q-off) ah).1
      .exact hone q hq
    .rw[hdlen]at hq;rw[hget q ah,hdget q hq];split
     .exact hh q hq
     .split
      .exact(c2 (q-off) ah).2
      .exact hh q hq
   obtain⟨cs',g1,g2⟩:=py hρ place len r l (fun p hp=>hm p (.tail _ hp)) h3 k4 cs1 _ ah hr1;refine⟨cs', ?_,by simpa[wS]using g2⟩;simp only[List.map_cons,Instr.fill,h1];rw[aj (by simp[hsz];omega),hcs1];exact g1
  .cases h
end
section
variable {ν:List (Nat×Nat)} {x:X} {P:Program}
def iJ:∀(ks:List CK) (ds:List D),fK ks ds->ds.length=ks.length
 |[],[],_=>rfl
 |[],_::_,h=>by simp[fK]at h
 |_::_,[],h=>by simp[fK]at h
 |c::r,d::ds,h=>by have:=iJ r ds (by simp[fK]at h;exact h.2);simp;omega
def jD:∀(a b:List CK) (ds:List D),fK (a++b) ds->fK a (ds.take a.length)/\fK b (ds.drop a.length)
 |[],b,ds,h=>by simpa[fK]using h
 |c::r,b,[],h=>by simp[fK]at h
 |c::r,b,d::ds,h=>by
  simp only[fR,fK]at h;obtain⟨h1,h2⟩:=jD r b ds h.2
  grind [fK]
def qJ:∀(n:Nat) (ds es:List D),ds.length=es.length->iw ds es=(iw (ds.take n) (es.take n)&&iw (ds.drop n) (es.drop n))
 |0,ds,es,_=>by simp[iw]
 |n+1,[],[],_=>by simp[iw]
 |n+1,[],_::_,h=>by simp at h
 |n+1,_::_,[],h=>by simp at h
 |n+1,d::ds,e::es,h=>by
  simp only[iw,List.take_succ_cons,List.drop_succ_cons];rw[qJ n ds es (by simpa using h),Bool.and_assoc]
def CM {c:CK}{d:D}(h:c.fits d):d.cells=[d]/\d.isAgg=false:=by
 cases c<;>cases d<;>simp_all[CK.fits,D.cells,D.isAgg]
def ku {c:CK}{d:D}(h:fK [c] d.cells)(ha:d.isAgg=false):c.fits d:=by
 cases d<;>simp_all[D.cells,D.isAgg,fK]
def pR {ds:List D}{off n:Nat}{ag:Bool}{ks:List CK}(h:fK ks ((ds.drop off).take n))(hn:ag=false->n=1)(hle:off+n<=ds.length):
  (cut ds off n ag).cells=(ds.drop off).take n/\(cut ds off n ag).isAgg=ag:=by
 cases ag
 .have:=hn rfl;subst this;have hlt:off<ds.length:=ah;have e:(ds.drop off).take 1=[ds.getD off .any]:=by
   rw[gZ hlt];simp[List.getD,hlt,List.take]
  rw[e]at h⊢;cases ks with
  |nil=>simp[fK]at h
  |cons c r=>
   simp only[fK]at h;exact CM h.1
 .exact⟨rfl,rfl⟩
def EX (ν:List (Nat×Nat))(x:X)(P:Program)(n:Nat)(t:TypeId)(ks:List CK):Prop:=
 ∀u v d e (w:World),RD ν x u d->RD ν x v e->d.isAgg=cI P t->e.isAgg=cI P t->fK ks d.cells->fK ks e.cells->
  (Op.equalIn n t u v).run P w=.ok (iw d.cells e.cells) w
def xe {n:Nat}{t:TypeId}{ks:List CK}(h:fX P n t=some ks)(ha:cI P t=false):ks.length=1:=by
 cases n with
 |zero=>simp[fX]at h
 |succ n=>
  grind [fX,cI]
def rR (n depth:Nat)(ih:∀t ks,fX P depth t=some ks->EX ν x P n t ks)(xs ys:Array Value)(ds es:List D)(h1:RD ν x (.agg xs) (.agg ds))(h2:RD ν x (.agg ys) (.agg es))(w:World):
  ∀(fs:List Field) (off:Nat) (ks:List CK),kB P (fun t=>fX P depth t) off fs=some ks->off<=ds.length->off<=es.length->fK ks (ds.drop off)->fK ks (es.drop off)->
  (Op.eqFields n xs ys fs).run P w=.ok (iw (ds.drop off) (es.drop off)) w
 |[],off,ks,hk,_,_,f1,f2=>by
  simp[kB]at hk;subst hk;have a:=iJ _ _ f1;have b:=iJ _ _ f2;have a':ds.drop off=[]:=jM a;have b':es.drop off=[]:=jM b;rw[a',b'];simp[Op.eqFields,iw]
 |f::fs,off,ks,hk,l1,l2,f1,f2=>by
  simp only[kB]at hk;split at hk
  .cases hk
  .rename_i hne;have hname:f.name≠ "_" :=fun e=>hne (.inl e)
   have hoff:f.offset=off:=by
    rcases Nat.decEq f.offset off with h|h
    .exact absurd (.inr h) hne
    .exact h
   split at hk
   .rename_i a b ha hb;split at hk
    .rename_i hlen;obtain⟨hlen,hnz,hund⟩:=hlen;simp only[aP]at hk;subst hk;obtain⟨fa1,fb1⟩:=jD a b _ f1;obtain⟨fa2,fb2⟩:=jD a b _ f2;have la:=iJ _ _ f1;have lb:=iJ _ _ f2;simp only[pI,bS]at la lb;have hag:cI P f.type=false->P.cellsOf f.type=1:=fun e=>by rw[<-hlen];exact xe ha e
     obtain⟨u,r1,r2⟩:=nn (P:=P) (off:=off) (n:=P.cellsOf f.type) (ag:=cI P f.type) w h1 ah hund rfl rfl ah hag;obtain⟨v,s1,s2⟩:=nn (P:=P) (off:=off) (n:=P.cellsOf f.type) (ag:=cI P f.type) w h2 ah hund rfl rfl ah hag;rw[hlen]at fa1 fa2 fb1 fb2;obtain⟨c1,c2⟩:=pR (ag:=cI P f.type) fa1 hag ah;obtain⟨d1,d2⟩:=pR (ag:=cI P f.type) fa2 hag ah;have he:=ih f.type a ha u v _ _ w r2 s2 c2 d2 (by rw[c1];exact fa1) (by rw[d1];exact fa2);rw[List.drop_drop]at fb1 fb2;have hrest:=rR n depth ih xs ys ds es h1 h2 w fs (off+P.cellsOf f.type) b hb ah ah fb1 fb2;rw[qJ (P.cellsOf f.type) (ds.drop off) (es.drop off) dH];simp only[Op.eqFields,hname,ne_eq,not_false_eq_true,aY,Sem.run_bind,hoff,r1,s1,he,Result.andThen_ok,Sem.run_ite,hrest];rw[c1,d1,List.drop_drop,List.drop_drop];cases iw ((ds.drop off).take (P.cellsOf f.type)) ((es.drop off).take (P.cellsOf f.type))<;>simp
    .cases hk
   .cases hk
def tV (n:Nat)(e:TypeId)(l:List CK)(ih:EX ν x P n e l)(hc:l.length=P.cellsOf e)(hnz:l.length≠0)(hund:(P.underlying e).isNone=false)(hag:cI P e=false->P.cellsOf e=1)
  (xs ys:Array Value) (ds es:List D) (h1:RD ν x (.agg xs) (.agg ds)) (h2:RD ν x (.agg ys) (.agg es)) (w:World):
  ∀(len j:Nat),j*P.cellsOf e<=ds.length->j*P.cellsOf e<=es.length->fK (List.replicate len l).flatten (ds.drop (j*P.cellsOf e))->fK (List.replicate len l).flatten (es.drop (j*P.cellsOf e))->
  (Op.eqItems n e (P.cellsOf e) xs ys (List.range' j len)).run P w=.ok (iw (ds.drop (j*P.cellsOf e)) (es.drop (j*P.cellsOf e))) w
 |0,j,_,_,f1,f2=>by
  have a:=iJ _ _ f1;have b:=iJ _ _ f2;have a':ds.drop (j*P.cellsOf e)=[]:=jM (by simpa using a);have b':es.drop (j*P.cellsOf e)=[]:=jM (by simpa using b);rw[a',b'];simp[Op.eqItems,iw]
 |len+1,j,l1,l2,f1,f2=>by
  simp only[List.replicate_succ,List.flatten_cons]at f1 f2;obtain⟨fa1,fb1⟩:=jD _ _ _ f1;obtain⟨fa2,fb2⟩:=jD _ _ _ f2;have la:=iJ _ _ f1;have lb:=iJ _ _ f2;simp only[pI,bS]at la lb;have hj:(j+1)*P.cellsOf e=j*P.cellsOf e+P.cellsOf e:=Nat.succ_mul _ _;obtain⟨u,r1,r2⟩:=nn (P:=P) (off:=j*P.cellsOf e) (n:=P.cellsOf e) (ag:=cI P e) w h1 ah hund rfl rfl ah hag;obtain⟨v,s1,s2⟩:=nn (P:=P) (off:=j*P.cellsOf e) (n:=P.cellsOf e) (ag:=cI P e) w h2 ah hund rfl rfl ah hag;rw[hc]at fa1 fa2 fb1 fb2;obtain⟨c1,c2⟩:=pR (ag:=cI P e) fa1 hag ah;obtain⟨d1,d2⟩:=pR (ag:=cI P e) fa2 hag ah;have he:=ih u v _ _ w r2 s2 c2 d2 (by rw[c1];exact fa1) (by rw[d1];exact fa2);rw[List.drop_drop,<-hj]at fb1 fb2;have hrest:=tV n e l ih hc hnz hund hag xs ys ds es h1 h2 w len (j+1) ah ah fb1 fb2;rw[qJ (P.cellsOf e) (ds.drop (j*P.cellsOf e)) (es.drop (j*P.cellsOf e)) dH];simp only[List.range'_succ,Op.eqItems,Sem.run_bind,r1,s1,he,Result.andThen_ok,Sem.run_ite,hrest];rw[c1,d1,List.drop_drop,List.drop_drop,<-hj];cases iw ((ds.drop (j*P.cellsOf e)).take (P.cellsOf e)) ((es.drop (j*P.cellsOf e)).take (P.cellsOf e))<;>simp
def oX:∀(depth:Nat) (t:TypeId) (ks:List CK),fX P depth t=some ks->∀n,depth<=n->EX ν x P n t ks
 |0,t,ks,h,_,_=>by simp[fX]at h
 |depth+1,t,ks,h,n,hn=>by
  obtain⟨n,rfl⟩:∃k,n=k+1:=⟨n-1,ah⟩
  intro u v d e w r1 r2 a1 a2 f1 f2;simp only[fX]at h;split at h
  .rename_i hu;simp only[aP]at h;subst h;have hag:cI P t=false:=by simp[cI,hu]
   rw[hag]at a1 a2;have g1:=ku f1 a1;have g2:=ku f2 a2;cases d<;>simp only[CK.fits]at g1;cases e<;>simp only[CK.fits]at g2;rw[r1.iW,r2.iW,run_equalIn_bool w n t _ _ hu];simp[D.cells,iw,T9]
  .rename_i k hu;simp only[aP]at h;subst h;have hag:cI P t=false:=by simp[cI,hu]
   rw[hag]at a1 a2;have g1:=ku f1 a1;have g2:=ku f2 a2;cases d<;>simp only[CK.fits]at g1;cases e<;>simp only[CK.fits]at g2;subst g1;subst g2;rw[r1.dK,r2.dK,run_equalIn_int w n t _ _ _ _ hu];simp[D.cells,iw,T9]
  .rename_i hu;simp only[aP]at h;subst h;have hag:cI P t=false:=by simp[cI,hu]
   rw[hag]at a1 a2;have g1:=ku f1 a1;have g2:=ku f2 a2;cases d<;>simp only[CK.fits]at g1;cases e<;>simp only[CK.fits]at g2;rw[r1.ic.1,r2.ic.1,run_equalIn_string w n t _ _ hu];simp[D.cells,iw,T9,ByteArray.toList_eq]
  .rename_i fs hu;split at h
   .cases h
   .rename_i hst;have hag:cI P t=true:=by simp[cI,hu]
    rw[hag]at a1 a2;cases d<;>simp only[D.isAgg,iG]at a1;cases e<;>simp only[D.isAgg,iG]at a2;have hf:P.fieldsOf t=fs:=by simp[Program.fieldsOf,hu]
    cases r1 with
    |agg xs _ p1 p2 p3=>
     cases r2 with
     |agg ys _ q1 q2 q3=>
      rw[run_equalIn_struct w n t xs ys (by rw[hf];exact hu) (by simpa using hst),hf];have:=rR (ν:=ν) (x:=x) n depth (fun t ks hk=>oX depth t ks hk n ah) xs ys _ _ (.agg xs _ p1 p2 p3) (.agg ys _ q1 q2 q3) w fs.toList 0 ks h bg bg (by simpa[D.cells]using f1) (by simpa[D.cells]using f2);simpa[D.cells]using this
  .rename_i len e' hu;split at h
   .rename_i l hl;split at h
    .rename_i hc;obtain⟨hc,hnz,hund⟩:=hc;simp only[aP]at h;subst h;have hag:cI P t=true:=by simp[cI,hu]
     rw[hag]at a1 a2;cases d<;>simp only[D.isAgg,iG]at a1;cases e<;>simp only[D.isAgg,iG]at a2;obtain⟨i,hi,_⟩:=mK (P:=P) (t:=e') ah;cases r1 with
     |agg xs _ p1 p2 p3=>
      cases r2 with
      |agg ys _ q1 q2 q3=>
       rw[run_equalIn_array w n xs ys hu hi,List.range_eq_range'];have:=tV (ν:=ν) (x:=x) n e' l (oX depth e' l hl n ah) hc hnz hund (fun e=>by rw[<-hc];exact xe hl e) xs ys _ _ (.agg xs _ p1 p2 p3) (.agg ys _ q1 q2 q3) w len 0 bg bg (by simpa[D.cells]using f1) (by simpa[D.cells]using f2);simpa[D.cells]using this
    .cases h
   .cases h
  .cases h
end
end
end Go.Abs
