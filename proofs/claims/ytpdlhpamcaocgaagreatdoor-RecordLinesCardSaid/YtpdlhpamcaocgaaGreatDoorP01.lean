/- A part of the proofs of the statements: AbsD, AbsC, AbsR, AbsO, AbsP, AbsQ, AbsU. -/
import Derived.Attr
import Derived.ChangeKeysEq
import Derived.Deep.AppendSrc
import Derived.Laws.Cover4
import Derived.Lib.Strings
import Derived.WalkKit
import GoSem.Dispatch
import GoSem.Step
set_option linter.all false
set_option maxRecDepth 4000
namespace Go.Abs
inductive D where
 |any
 |bool (b:Bool)
 |int (k:IntKind) (n:Int)
 |str (s:List UInt8)
 |agg (cs:List D)
 |tup (ds:List D)
 |av
 |sl (k:Nat) (es:List D)
 |ref (k:Nat) (es:List D) (i o:Nat)
 |ptr (l k i o:Nat)
 |own (l k i n:Nat)
 |nilp
 |fn (f:Nat) (caps:List D)
 |nilf
 |it (l:Nat)
 deriving Inhabited
inductive Src where
 |s (n:Nat)
 |l (p:Nat)
 |c (d:D)
 deriving Inhabited
inductive Sh where
 |a
 |sl (k:Nat) (cs:List Sh)
 |pt (cs:List Sh)
 deriving Inhabited
inductive CK where
 |b|i (k:IntKind)|s
 deriving Inhabited
inductive aw where
 |mv (x:Src)
 |pick (c a b:Src)
 |box (k:Nat) (x:Src)
 |build (z:List D) (parts:List (Nat×Nat×Src))
 |bsl (k:Nat) (z:D) (n:Nat) (parts:List (Nat×Src))
 |ld (n:Nat) (ag:Bool) (p:Src)
 |st (n:Nat) (p v:Src)
 |nilck (x:Src)
 |bin (op:BinOp) (x y:Src)
 |eqA (neg ag:Bool) (ks:List CK) (x y:Src)
 |un (op:UnOp) (x:Src)
 |cvi (k:IntKind) (x:Src)
 |s2b (x:Src)
 |b2s (x:Src)
 |i2s (x:Src)
 |mkf (f:Nat) (caps:List Src)
 |mks (k:Nat) (z:D) (ln cp:Src)
 |slS (x:Src) (lo hi:Option Src)
 |slA (k:Nat) (x:Src) (lo hi:Option Src)
 |slX (k:Nat) (x hi mx:Src)
 |fa (off:Nat) (p:Src)
 |fld (off n:Nat) (ag:Bool) (x:Src)
 |ia (k:Nat) (x i:Src)
 |iaP (n k:Nat) (x i:Src)
 |ixS (x i:Src)
 |ixA (n k:Nat) (ag:Bool) (x i:Src)
 |ext (x:Src) (i:Nat)
 |len (x:Src)
 |lenS (x:Src)
 |app (k:Nat) (x y:Src)
 |call (f:Nat) (args:List Src) (sh:List (List Sh))
 |callv (f:Src) (args:List Src) (sh:List (List Sh))
 |callM (f:Nat) (args:List Src)
 |callvM (f:Src) (args:List Src)
 |ldI (n:Nat) (ag:Bool) (p:Src)
 |ldU (n:Nat) (ag:Bool) (p:Src)
 |callF (f:Nat) (r:Src) (args:List Src) (sh:List (List Sh))
 |appN (k:Nat) (y:Src)
 |bslI (k:Nat) (z:D) (n:Nat) (parts:List (Nat×Src))
 |rng (x:Src)
 |ve (x:Src)
 |mkB
 deriving Inhabited
structure GI where
 i:aw
 g:Option (Nat×Bool)
 deriving Inhabited
inductive AC where
 |reg (draw:Bool) (ins:List GI) (cm:List (Nat×Nat))
 |seq (a b:AC)
 |cond (c:Src) (a b:AC)
 |block (id:Nat) (a:AC)
 |loop (a:AC)
 |exit (id:Nat)
 |ret
 |skip
 deriving Inhabited
structure Am where
 s:Nat
 mem:Option (Nat×Bool)
 deriving Inhabited
structure aB where
 np:Nat
 ns:Nat
 res:List Am
 rsh:List (List Sh)
 body:AC
 deriving Inhabited
@[go_sem] def D.cells:D→List D
 | .agg cs=>cs
 | .any=>[]
 | .tup _=>[]
 |d=>[d]
@[go_sem] def D.isBool:D→Bool
 | .bool _=>true
 |_=>false
@[go_sem] def D.isAgg:D→Bool
 | .agg _=>true
 |_=>false
mutual
/--names no memory of the call's own -/
@[go_sem] def D.aK:D→Bool
 | .agg cs=>aH cs
 | .tup cs=>aH cs
 | .fn _ cs=>aH cs
 | .ptr .. =>false
 | .own .. =>false
 | .it _=>false
 |_=>true
@[go_sem] def aH:List D→Bool
 |[]=>true
 |d::r=>d.aK&&aH r
end
mutual
/--names no memory -/
@[go_sem] def D.dr:D→Bool
 | .agg cs=>jW cs
 | .tup cs=>jW cs
 | .fn _ cs=>jW cs
 | .ptr .. =>false
 | .own .. =>false
 | .it _=>false
 | .sl .. =>false
 | .ref .. =>false
 |_=>true
@[go_sem] def jW:List D→Bool
 |[]=>true
 |d::r=>d.dr&&jW r
end
inductive aV where
 |buf (k:Nat) (es:List D)
 |iter (s:List UInt8) (pos:Nat)
 /--a builder's bytes;a builder:where its bytes are,how many,whether it has been used -/
 |row (s:List UInt8)
 |bld (o:Option Nat) (n:Nat) (u:Bool)
 deriving Inhabited
structure St where
 nx:Nat
 m:List (Nat×aV)
@[go_sem] def look:List (Nat×aV)→Nat→Option aV
 |[],_=>none
 |(a,b)::r,l=>if a=l then some b else look r l
@[go_sem] def bR:List (Nat×aV)→Nat→aV→List (Nat×aV)
 |[],l,b=>[(l,b)]
 |(a,x)::r,l,b=>if a=l then(a,b)::r else(a,x)::bR r l b
@[go_sem] def bN:List (Nat×aV)→Nat→List (Nat×aV)
 |[],_=>[]
 |(a,x)::r,l=>if a=l then bN r l else(a,x)::bN r l
structure aW where
 ok:Bool
 d:D
@[go_sem] def aW.un:aW:=⟨true,.any⟩
@[go_sem] def Src.ev (env vs:List aW):Src→aW
 | .s n=>env.getD n .un
 | .l p=>vs.getD p .un
 | .c d=>⟨true,d⟩
structure Ctx where
 pre:Nat→List D→Prop
 val:Nat→List D→D
 tr:Nat→List D→St→(D→St→Prop)→Prop
 /--methods that change what their receiver points to:what must hold,the answer,what the receiver points to then -/
 fp:Nat→D→List D→Prop
 fv:Nat→D→List D→D
 fs:Nat→D→List D→D
 /--the names below this one are the caller's -/
 lo:Nat
@[go_sem] def aD (m:List (Nat×aV))(l:Nat):List D:=match look m l with
 |some (.buf _ es)=>es
 |_=>[]
@[go_sem] def dE (m:List (Nat×aV))(l k n:Nat):Prop:=match look m l with
 |some (.buf k' es)=>k=k'∧n≤es.length
 |_=>False
@[go_sem] def mg (m:List (Nat×aV)):D→List D
 | .sl _ es=>es
 | .own l _ i n=>((aD m l).drop i).take n
 | .str s=>s.map fun b=>.int .u8 b.toNat
 |_=>[]
@[go_sem] def xt (m:List (Nat×aV))(k:Nat):D→Prop
 | .sl k' _=>k'=k
 | .own l k' i n=>k'=k∧dE m l k (i+n)
 | .str _=>k=1
 | .av=>True
 |_=>False
mutual
@[go_sem] def k9 (m:List (Nat×aV)):Sh→D→D
 | .a,d=>match d with
  | .av=>.sl 0 []
  |d=>d
 | .sl k cs,d=>match d with
  | .av=>.sl k []
  | .own l k' i c=>.sl k' ((((aD m l).drop i).take c).map (gB m cs))
  |d=>d
 | .pt cs,d=>match d with
  | .ptr l k i o=>.ref k ((aD m l).map (gB m cs)) i o
  |d=>d
@[go_sem] def gB (m:List (Nat×aV)):List Sh→D→D
 |[],d=>d
 |s::r,d=>match d with
  | .agg cs=>.agg (lf m (s::r) cs)
  |d=>k9 m s d
@[go_sem] def lf (m:List (Nat×aV)):List Sh→List D→List D
 |[],ds=>ds
 |s::r,ds=>match ds with
  |[]=>[]
  |d::ds=>k9 m s d::lf m r ds
end
mutual
@[go_sem] def iV (m:List (Nat×aV)):Sh→D→Prop
 | .a,d=>d.aK=true
 | .sl _ cs,d=>match d with
  | .own l k' i c=>dE m l k' (i+c)∧∀e∈((aD m l).drop i).take c,eN m cs e
  |d=>d.aK=true
 | .pt cs,d=>match d with
  | .ptr l k _ _=>dE m l k 0∧∀e∈aD m l,eN m cs e
  |d=>d.aK=true
@[go_sem] def eN (m:List (Nat×aV)):List Sh→D→Prop
 |[],d=>d.aK=true
 |s::r,d=>match d with
  | .agg cs=>jt m (s::r) cs
  |d=>iV m s d
@[go_sem] def jt (m:List (Nat×aV)):List Sh→List D→Prop
 |[],ds=>aH ds=true
 |s::r,ds=>match ds with
  |[]=>True
  |d::ds=>iV m s d∧jt m r ds
end
@[go_sem] def il (op:BinOp):D→D→D
 | .int k a,.int _ b=>match op with
  | .add=>.int k (k.wrap (a+b))
  | .sub=>.int k (k.wrap (a-b))
  | .mul=>.int k (k.wrap (a*b))
  | .quo=>.int k (k.wrap (a.tdiv b))
  | .rem=>.int k (a.tmod b)
  | .eql=>.bool (a==b)| .neq=>.bool (a !=b)| .lss=>.bool (decide (a<b))| .leq=>.bool (decide (a≤b))| .gtr=>.bool (decide (b<a))| .geq=>.bool (decide (b≤a))
  | .shl=>.int k (k.wrap (a*2^(min b.toNat k.bits)))
  | .shr=>.int k (a.fdiv (2^(min b.toNat k.bits)))
  | .and=>.int k (k.wrap (((BitVec.ofInt k.bits a)&&&(BitVec.ofInt k.bits b)).toNat))
  | .or=>.int k (k.wrap (((BitVec.ofInt k.bits a) |||(BitVec.ofInt k.bits b)).toNat))
  | .xor=>.int k (k.wrap (((BitVec.ofInt k.bits a)^^^(BitVec.ofInt k.bits b)).toNat))
  | .andNot=>.int k (k.wrap (((BitVec.ofInt k.bits a)&&& ~~~(BitVec.ofInt k.bits b)).toNat))
 | .str a,.str b=>match op with
  | .add=>.str (a++b)
  | .eql=>.bool (a==b)| .neq=>.bool (!(a==b))| .lss=>.bool (Op.bytesLess a b)| .geq=>.bool (!(Op.bytesLess a b))
  | .leq=>.bool (Op.bytesLess a b ||a==b)| .gtr=>.bool (!(Op.bytesLess a b ||a==b))
  |_=>.any
 |_,_=>.any
@[go_sem] def gE (op:BinOp):D→D→Prop
 | .int k a,.int k' b=>match op with
  | .quo=>k=k'∧b≠0
  | .rem=>k=k'∧b≠0
  | .shl=>0≤b
  | .shr=>0≤b
  |_=>k=k'
 | .str a,.str b=>match op with
  | .add=>a.length+b.length≤9223372036854775807
  | .eql=>True| .neq=>True| .lss=>True| .geq=>True| .leq=>True| .gtr=>True
  |_=>False
 |_,_=>False
@[go_sem] def D.pick (b:Bool):D→D→D
 | .bool x,.bool y=>.bool (bif b then x else y)
 |x,y=>bif b then x else y
@[go_sem] def cut (cs:List D)(o n:Nat)(ag:Bool):D:=bif ag then .agg ((cs.drop o).take n)else cs.getD o .any
@[go_sem] def mi (e:D)(k n o:Nat)(ag:Bool):D:=bif (n==k)&&(e.isAgg==ag)then e else cut e.cells o n ag
@[go_sem] def zd (m:List (Nat×aV))(n:Nat)(ag:Bool):D→D
 | .ptr l k i o=>mi ((aD m l).getD i .any) k n o ag
 | .ref k es i o=>mi (es.getD i .any) k n o ag
 |_=>.any
@[go_sem] def Al (m:List (Nat×aV))(n:Nat):D→Prop
 | .ptr l k i o=>dE m l k (i+1)∧o+n≤k
 | .ref k es i o=>i<es.length∧o+n≤k
 |_=>False
mutual
@[go_sem] def KA:D→D→Bool
 | .bool a,.bool b=>a==b
 | .int _ a,.int _ b=>a==b
 | .str a,.str b=>a==b
 |_,_=>false
@[go_sem] def fE:List D→List D→Bool
 |[],[]=>true
 |a::r,b::s=>KA a b&&fE r s
 |_,_=>false
end
@[go_sem] def CK.fits:CK→D→Prop
 | .b,.bool _=>True
 | .i k,.int k' _=>k'=k
 | .s,.str _=>True
 |_,_=>False
@[go_sem] def et:List CK→List D→Prop
 |[],[]=>True
 |c::r,d::s=>c.fits d∧et r s
 |_,_=>False
@[go_sem] def over (cs:List D)(o:Nat)(new:List D):List D:=cs.take o++(new++cs.drop (o+new.length))
@[go_sem] def uO (e:D)(k n o:Nat)(v:D):D:=bif (n==k)&&(v.isAgg ||!e.isAgg)then v else .agg (over e.cells o v.cells)
@[go_sem] def tI (ρ:Src→aW)(cs:List D):List (Nat×Nat×Src)→List D
 |[]=>cs
 |(o,_,s)::r=>tI ρ (over cs o (ρ s).d.cells) r
@[go_sem] def vV (ρ:Src→aW)(len:Nat):List (Nat×Nat×Src)→Prop
 |[]=>True
 |(o,n,s)::r=>(ρ s).ok=true∧(ρ s).d.cells.length=n∧o+n≤len∧vV ρ len r
@[go_sem] def jr (ρ:Src→aW)(es:List D):List (Nat×Src)→List D
 |[]=>es
 |(i,s)::r=>jr ρ (es.set i (ρ s).d) r
@[go_sem] def oJ (ρ:Src→aW)(k n:Nat):List (Nat×Src)→Prop
 |[]=>True
 |(i,s)::r=>i<n∧(ρ s).ok=true∧(ρ s).d.cells.length=k∧oJ ρ k n r
@[go_sem] def D.nat:D→Nat
 | .int _ n=>n.toNat
 |_=>0
@[go_sem] def cM (o:Option D)(dflt:Nat):Nat:=match o with
 |some (.int _ n)=>n.toNat
 |_=>dflt
@[go_sem] def lB (o:Option D)(hi:Nat):Prop:=match o with
 |none=>True
 |some (.int _ n)=>0≤n∧n≤hi
 |_=>False
@[go_sem] def Eo (ρ:Src→aW):Option Src→Prop
 |none=>True
 |some s=>(ρ s).ok=true
@[go_sem] def dO (ρ:Src→aW):Option Src→Option D
 |none=>none
 |some s=>some (ρ s).d
@[go_sem] def uu (ρ:Src→aW):List Src→Prop
 |[]=>True
 |s::r=>(ρ s).ok=true∧uu ρ r
@[go_sem] def fm (ρ:Src→aW):List Src→List D
 |[]=>[]
 |s::r=>(ρ s).d::fm ρ r
@[go_sem] def D.u8:D→UInt8
 | .int _ n=>UInt8.ofNat n.toNat
 |_=>0
@[go_sem] def D.Dm:D→Prop
 | .int k n=>k=.u8∧0≤n∧n<256
 |_=>False
def qC (s:List UInt8)(pos:Nat):Nat×Nat:=Utf8.decode ⟨⟨s⟩⟩ pos
def GN (n:Int):List UInt8:=(Utf8.encode n).data.toList
@[go_sem] def dP (m:List (Nat×aV)):List (List Sh)→List D→List D
 |_,[]=>[]
 |[],d::r=>gB m [.a] d::dP m [] r
 |s::ss,d::r=>gB m s d::dP m ss r
@[go_sem] def gh (m:List (Nat×aV)):List (List Sh)→List D→Prop
 |_,[]=>True
 |[],d::r=>eN m [.a] d∧gh m [] r
 |s::ss,d::r=>eN m s d∧gh m ss r
@[go_sem] def aw.val (Γ:Ctx)(ρ:Src→aW)(m:List (Nat×aV))(L:Nat):aw→D
 | .mv x=>(ρ x).d
 | .pick c a b=>match(ρ c).d with| .bool t=>D.pick t (ρ a).d (ρ b).d|_=>.any
 | .box k _=>.ptr L k 0 0
 | .build z ps=>.agg (tI ρ z ps)
 | .bsl k _ n _=>.own L k 0 n
 | .ld n ag p=>zd m n ag (ρ p).d
 | .st _ _ _=>.any
 | .nilck x=>(ρ x).d
 | .bin op x y=>il op (ρ x).d (ρ y).d
 | .eqA neg _ _ x y=>.bool (bif neg then !(fE (ρ x).d.cells (ρ y).d.cells)else fE (ρ x).d.cells (ρ y).d.cells)
 | .un op x=>match op,(ρ x).d with
  | .not,.bool b=>.bool (!b)
  | .neg,.int k n=>.int k (k.wrap (0-n))
  |_,_=>.any
 | .cvi k x=>match(ρ x).d with| .int _ n=>.int k (k.wrap n)|_=>.any
 | .s2b x=>match(ρ x).d with| .str s=>.own L 1 0 s.length|_=>.any
 | .b2s x=>.str ((mg m (ρ x).d).map D.u8)
 | .i2s x=>match(ρ x).d with| .int _ n=>.str (GN n)|_=>.any
 | .mkf f caps=>.fn f (fm ρ caps)
 | .mks k _ ln _=>.own L k 0 (ρ ln).d.nat
 | .slS x lo hi=>match(ρ x).d with
  | .str s=>.str ((s.take (cM (dO ρ hi) s.length)).drop (cM (dO ρ lo) 0))
  |_=>.any
 | .slA _ x lo hi=>match(ρ x).d with
  | .sl k es=>.sl k ((es.take (cM (dO ρ hi) es.length)).drop (cM (dO ρ lo) 0))
  | .own l k i n=>.own l k (i+cM (dO ρ lo) 0) (cM (dO ρ hi) n-cM (dO ρ lo) 0)
  | .av=>.av
  |_=>.any
 | .slX _ x hi _=>match(ρ x).d,(ρ hi).d with
  | .sl k es,.int _ h=>.sl k (es.take h.toNat)
  | .own l k i _,.int _ h=>.own l k i h.toNat
  | .av,_=>.av
  |_,_=>.any
 | .fa off p=>match(ρ p).d with
  | .ptr l k i o=>.ptr l k i (o+off)
  | .ref k es i o=>.ref k es i (o+off)
  |_=>.any
 | .fld off n ag x=>cut (ρ x).d.cells off n ag
 | .ia _ x i=>match(ρ x).d,(ρ i).d with
  | .sl k es,.int _ n=>.ref k es n.toNat 0
  | .own l k j _,.int _ n=>.ptr l k (j+n.toNat) 0
  |_,_=>.any
 | .iaP _ k x i=>match(ρ x).d,(ρ i).d with
  | .ptr l k' j o,.int _ n=>.ptr l k' j (o+n.toNat*k)
  | .ref k' es j o,.int _ n=>.ref k' es j (o+n.toNat*k)
  |_,_=>.any
 | .ixS x i=>match(ρ x).d,(ρ i).d with
  | .str s,.int _ n=>.int .u8 (s.getD n.toNat 0).toNat
  |_,_=>.any
 | .ixA _ k ag x i=>match(ρ i).d with
  | .int _ n=>cut (ρ x).d.cells (n.toNat*k) k ag
  |_=>.any
 | .ext x i=>match(ρ x).d with| .tup ds=>ds.getD i .any|_=>.any
 | .len x=>match(ρ x).d with
  | .sl _ es=>.int .i64 es.length
  | .own _ _ _ n=>.int .i64 n
  | .av=>.int .i64 0
  |_=>.any
 | .lenS x=>match(ρ x).d with
  | .str s=>.int .i64 s.length
  |_=>.any
 | .app k x y=>match(ρ x).d with
  | .own _ _ _ n=>.own L k 0 (n+(mg m (ρ y).d).length)
  |_=>.own L k 0 (mg m (ρ y).d).length
 | .call f args sh=>Γ.val f (dP m sh (fm ρ args))
 | .callv f args sh=>match(ρ f).d with
  | .fn n caps=>Γ.val n (dP m sh (fm ρ args++caps))
  |_=>.any
 | .callM _ _=>.any
 | .callvM _ _=>.any
 | .ldU n ag p=>zd m n ag (ρ p).d
 | .ldI n ag p=>match(ρ p).d with
  | .ref k es i o=>mi (es.getD i .any) k n o ag
  |_=>.any
 | .appN k y=>.own L k 0 (mg m (ρ y).d).length
 | .bslI k z n ps=>.sl k (jr ρ (List.replicate n z) ps)
 | .callF f r args sh=>match(ρ r).d with
  | .ptr l _ _ _=>Γ.fv f ((aD m l).getD 0 .any) (dP [] sh (fm ρ args))
  |_=>.any
 | .rng _=>.it L
 | .mkB=>.ptr L 2 0 0
 | .ve x=>match(ρ x).d with
  | .it l=>match look m l with
   |some (.iter s pos)=>bif decide (pos<s.length)then .tup [.bool true,.int .i64 pos,.int .i32 (qC s pos).1]else .tup [.bool false]
   |_=>.any
  |_=>.any
@[go_sem] def qy (args:List D)(r:D):Bool:=aH args ||r.dr
@[go_sem] def aw.cE (Γ:Ctx)(ρ:Src→aW)(m:List (Nat×aV)):aw→Prop
 | .mv x=>(ρ x).ok=true
 | .pick c a b=>(ρ c).ok=true∧match(ρ c).d with
  | .bool t=>(t=true→(ρ a).ok=true)∧(t=false→(ρ b).ok=true)
  |_=>False
 | .box k x=>(ρ x).ok=true∧(ρ x).d.cells.length=k
 | .build z ps=>vV ρ z.length ps
 | .bsl k z n ps=>z.cells.length=k∧oJ ρ k n ps
 | .ld n _ p=>(ρ p).ok=true∧Al m n (ρ p).d
 | .st n p v=>(ρ p).ok=true∧(ρ v).ok=true∧(ρ v).d.cells.length=n∧match(ρ p).d with
  | .ptr l k i o=>dE m l k (i+1)∧o+n≤k
  |_=>False
 | .nilck x=>(ρ x).ok=true∧match(ρ x).d with| .ptr .. =>True| .ref .. =>True|_=>False
 | .bin op x y=>(ρ x).ok=true∧(ρ y).ok=true∧gE op (ρ x).d (ρ y).d
 | .eqA _ ag ks x y=>(ρ x).ok=true∧(ρ y).ok=true∧(ρ x).d.isAgg=ag∧(ρ y).d.isAgg=ag∧et ks (ρ x).d.cells∧et ks (ρ y).d.cells
 | .un op x=>(ρ x).ok=true∧match op,(ρ x).d with
  | .not,.bool _=>True
  | .neg,.int _ _=>True
  |_,_=>False
 | .cvi _ x=>(ρ x).ok=true∧match(ρ x).d with| .int _ _=>True|_=>False
 | .s2b x=>(ρ x).ok=true∧match(ρ x).d with| .str _=>True|_=>False
 | .b2s x=>(ρ x).ok=true∧(match(ρ x).d with| .str _=>False|_=>True)∧xt m 1 (ρ x).d∧∀e∈mg m (ρ x).d,e.Dm
 | .i2s x=>(ρ x).ok=true∧match(ρ x).d with| .int _ _=>True|_=>False
 | .mkf _ caps=>uu ρ caps
 | .mks k z ln cp=>(ρ ln).ok=true∧(ρ cp).ok=true∧z.cells.length=k∧match(ρ ln).d,(ρ cp).d with
  | .int _ n,.int _ c=>0≤n∧n≤c∧c≤1073741824
  |_,_=>False
 | .slS x lo hi=>(ρ x).ok=true∧Eo ρ lo∧Eo ρ hi∧match(ρ x).d with
  | .str s=>lB (dO ρ hi) s.length∧lB (dO ρ lo) (cM (dO ρ hi) s.length)
  |_=>False
 | .slA k x lo hi=>(ρ x).ok=true∧Eo ρ lo∧Eo ρ hi∧match(ρ x).d with
  | .sl k' es=>k'=k∧lB (dO ρ hi) es.length∧lB (dO ρ lo) (cM (dO ρ hi) es.length)
  | .own _ k' _ n=>k'=k∧lB (dO ρ hi) n∧lB (dO ρ lo) (cM (dO ρ hi) n)
  | .av=>lB (dO ρ hi) 0∧lB (dO ρ lo) 0
  |_=>False
 | .slX k x hi mx=>(ρ x).ok=true∧(ρ hi).ok=true∧(ρ mx).ok=true∧match(ρ hi).d,(ρ mx).d with
  | .int _ h,.int _ m=>0≤h∧h≤m∧(match(ρ x).d with
    | .sl k' es=>k'=k∧m≤es.length
    | .own _ k' _ n=>k'=k∧m≤n
    | .av=>m=0
    |_=>False)
  |_,_=>False
 | .fa off p=>(ρ p).ok=true∧match(ρ p).d with| .ptr .. =>True| .ref .. =>True|_=>False
 | .fld off n ag x=>(ρ x).ok=true∧match(ρ x).d with| .agg cs=>off+n≤cs.length∧(ag=false→n=1)|_=>False
 | .ia k x i=>(ρ x).ok=true∧(ρ i).ok=true∧match(ρ x).d,(ρ i).d with
  | .sl k' es,.int _ n=>k'=k∧0≤n∧n<es.length
  | .own _ k' _ c,.int _ n=>k'=k∧0≤n∧n<c
  |_,_=>False
 | .iaP n k x i=>(ρ x).ok=true∧(ρ i).ok=true∧match(ρ x).d,(ρ i).d with
  | .ptr ..,.int _ c=>0≤c∧c<n
  | .ref ..,.int _ c=>0≤c∧c<n
  |_,_=>False
 | .ixS x i=>(ρ x).ok=true∧(ρ i).ok=true∧match(ρ x).d,(ρ i).d with
  | .str s,.int _ n=>0≤n∧n<s.length
  |_,_=>False
 | .ixA n k ag x i=>(ρ x).ok=true∧(ρ i).ok=true∧(ag=false→k=1)∧match(ρ x).d,(ρ i).d with
  | .agg cs,.int _ c=>0≤c∧c<n∧cs.length=n*k
  |_,_=>False
 | .ext x i=>(ρ x).ok=true∧match(ρ x).d with| .tup ds=>i<ds.length|_=>False
 | .len x=>(ρ x).ok=true∧match(ρ x).d with| .sl _ _=>True| .own .. =>True| .av=>True|_=>False
 | .lenS x=>(ρ x).ok=true∧match(ρ x).d with| .str _=>True|_=>False
 | .app k x y=>(ρ x).ok=true∧(ρ y).ok=true∧xt m k (ρ y).d∧match(ρ x).d with
  | .own l k' i n=>k'=k∧dE m l k (i+n)∧n+(mg m (ρ y).d).length≤1073741824
  | .av=>(mg m (ρ y).d).length≤1073741824
  |_=>False
 | .call f args sh=>uu ρ args∧gh m sh (fm ρ args)∧Γ.pre f (dP m sh (fm ρ args))∧qy (fm ρ args) (Γ.val f (dP m sh (fm ρ args)))=true
 | .callv f args sh=>(ρ f).ok=true∧uu ρ args∧match(ρ f).d with
  | .fn n caps=>n<1000000∧gh m sh (fm ρ args++caps)∧Γ.pre n (dP m sh (fm ρ args++caps))∧qy (fm ρ args++caps) (Γ.val n (dP m sh (fm ρ args++caps)))=true
  |_=>False
 | .callM _ args=>uu ρ args
 | .callvM _ args=>uu ρ args
 | .ldU n _ p=>(ρ p).ok=true∧match(ρ p).d with
  | .ptr l k i o=>(dE m l k (i+1)∧o+n≤k)∧aH (aD m l)=false
  | .ref k es i o=>i<es.length∧o+n≤k
  |_=>False
 | .ldI n _ p=>(ρ p).ok=true∧match(ρ p).d with
  | .ref k es i o=>i<es.length∧o+n≤k
  |_=>False
 | .appN k y=>(ρ y).ok=true∧xt m k (ρ y).d∧(mg m (ρ y).d).length≤1073741824
 | .bslI k z n ps=>z.cells.length=k∧oJ ρ k n ps∧aH (jr ρ (List.replicate n z) ps)=true
 | .callF f r args sh=>(ρ r).ok=true∧uu ρ args∧aH (fm ρ args)=true∧match(ρ r).d with
  | .ptr l k i o=>i=0∧o=0∧dE m l k 1∧(aD m l).length=1∧((aD m l).getD 0 .any).aK=true∧Γ.fp f ((aD m l).getD 0 .any) (dP [] sh (fm ρ args))
  |_=>False
 | .rng x=>(ρ x).ok=true∧match(ρ x).d with| .str _=>True|_=>False
 | .mkB=>True
 | .ve x=>(ρ x).ok=true∧match(ρ x).d with
  | .it l=>match look m l with
   |some (.iter _ _)=>True
   |_=>False
  |_=>False
@[go_sem] def Src.Fq:Src→Bool
 | .s _=>true
 |_=>false
@[go_sem] def aw.Au (draw:Bool)(ρ:Src→aW):aw→Prop
 | .len x=>bif draw&& !x.Fq then True else(ρ x).ok=true→match(ρ x).d with
  | .sl _ es=>es.length≤9223372036854775807
  | .own _ _ _ n=>n≤9223372036854775807
  |_=>True
 | .lenS x=>bif draw&& !x.Fq then True else(ρ x).ok=true→match(ρ x).d with
  | .str s=>s.length≤9223372036854775807
  |_=>True
 |_=>True
@[go_sem] def aw.bA (Γ:Ctx)(ρ:Src→aW)(m:List (Nat×aV))(L:Nat):aw→List (Nat×aV)
 | .box k x=>bR m L (.buf k [(ρ x).d])
 | .bsl k z n ps=>bR m L (.buf k (jr ρ (List.replicate n z) ps))
 | .mks k z ln _=>bR m L (.buf k (List.replicate (ρ ln).d.nat z))
 | .s2b x=>match(ρ x).d with
  | .str s=>bR m L (.buf 1 (s.map fun b=>.int .u8 b.toNat))
  |_=>m
 | .st n p v=>match(ρ p).d with
  | .ptr l k i o=>bR m l (.buf k ((aD m l).set i (uO ((aD m l).getD i .any) k n o (ρ v).d)))
  |_=>m
 | .app k x y=>match(ρ x).d with
  | .own l k' i n=>bR (bN m l) L (.buf k ((((aD m l).drop i).take n)++mg m (ρ y).d))
  |_=>bR m L (.buf k (mg m (ρ y).d))
 | .appN k y=>bR m L (.buf k (mg m (ρ y).d))
 | .callF f r args sh=>match(ρ r).d with
  | .ptr l k _ _=>bR m l (.buf k [Γ.fs f ((aD m l).getD 0 .any) (dP [] sh (fm ρ args))])
  |_=>m
 | .rng x=>match(ρ x).d with
  | .str s=>bR m L (.iter s 0)
  |_=>m
 | .mkB=>bR m L (.bld none 0 false)
 | .ve x=>match(ρ x).d with
  | .it l=>match look m l with
   |some (.iter s pos)=>bif decide (pos<s.length)then bR m l (.iter s (pos+(qC s pos).2))else m
   |_=>m
  |_=>m
 |_=>m
@[go_sem] def bM:D→List Nat
 | .ptr l _ _ _=>[l]
 | .own l _ _ _=>[l]
 | .it l=>[l]
 |_=>[]
@[go_sem] def aw.jF (ρ:Src→aW):aw→Option (List Nat)
 | .ld _ _ p=>some (bM (ρ p).d)
 | .ldU _ _ p=>some (bM (ρ p).d)
 | .st _ p _=>some (bM (ρ p).d)
 | .b2s x=>some (bM (ρ x).d)
 | .app _ x y=>some (bM (ρ x).d++bM (ρ y).d)
 | .ve x=>some (bM (ρ x).d)
 | .call _ args _=>bif aH (fm ρ args)then some []else none
 | .callv f args _=>match(ρ f).d with
  | .fn _ caps=>bif aH (fm ρ args++caps)then some []else none
  |_=>none
 | .callM _ _=>none
 | .callvM _ _=>none
 | .callF _ r _ _=>some (bM (ρ r).d)
 | .appN _ y=>some (bM (ρ y).d)
 |_=>some []
@[go_sem] def aw.wr (ρ:Src→aW)(L:Nat):aw→List Nat
 | .box .. =>[L]
 | .bsl .. =>[L]
 | .mks .. =>[L]
 | .s2b _=>[L]
 | .rng _=>[L]
 | .mkB=>[L]
 | .st _ p _=>bM (ρ p).d
 | .app _ x _=>L::bM (ρ x).d
 | .ve x=>bM (ρ x).d
 | .callF _ r _ _=>bM (ρ r).d
 | .appN .. =>[L]
 |_=>[]
@[go_sem] def aw.calm:aw→Bool
 | .st .. =>false
 | .app .. =>false
 | .ve .. =>false
 | .callM .. =>false
 | .callvM .. =>false
 | .callF .. =>false
 |_=>true
@[go_sem] def flag (vs:List aW):Option (Nat×Bool)→Bool
 |none=>true
 |some (j,w)=>(vs.getD j .un).ok&&match(vs.getD j .un).d with
  | .bool b=>b==w
  |_=>false
@[go_sem] def Fg (vs:List aW)(i:aw):Option (Nat×Bool)→Prop
 |none=>True
 |some (j,_)=>i.calm=true∧((vs.getD j .un).ok=true→(vs.getD j .un).d.isBool=true)
@[go_sem] def aw.rN (draw:Bool)(g:Option (Nat×Bool))(i:aw):Bool:=!draw&&(!i.calm&&g.isSome)
@[go_sem] def y0 (vs:List aW):Option (Nat×Bool)→Prop
 |none=>True
 |some (j,_)=>(vs.getD j .un).ok=true→(vs.getD j .un).d.isBool=true
@[go_sem] def xl (n:Nat):Nat:=if n<1000000 then n else n-1000000
@[go_sem] def vj (n:Nat)(VM caps:List D):List D:=if n<1000000 then VM++caps else caps++VM
def fH (Γ:Ctx)(draw:Bool):List GI→(env vs:List aW)→St→(List aW→St→Prop)→Prop
 |[],_,vs,st,K=>K vs {st with nx:=st.nx+vs.length}
 |⟨.callM f args,g⟩::r,env,vs,st,K=>
  y0 vs g∧(flag vs g=true→uu (Src.ev env vs) args∧
   Γ.tr f (fm (Src.ev env vs) args) {st with nx:=st.nx+vs.length} fun d st'=>st.nx+vs.length≤st'.nx∧fH Γ draw r env (vs++[⟨true,d⟩]) {st' with nx:=st'.nx-vs.length} K)∧
   (flag vs g=false→fH Γ draw r env (vs++[⟨false,.any⟩]) st K)
 |⟨.callvM f args,g⟩::r,env,vs,st,K=>
  Fg vs (.callvM f args) g∧(Src.ev env vs f).ok=true∧uu (Src.ev env vs) args∧match(Src.ev env vs f).d with
   | .fn n caps=>Γ.tr (xl n) (vj n (fm (Src.ev env vs) args) caps) {st with nx:=st.nx+vs.length} fun d st'=>st.nx+vs.length≤st'.nx∧fH Γ draw r env (vs++[⟨true,d⟩]) {st' with nx:=st'.nx-vs.length} K
   |_=>False
 |⟨i,g⟩::r,env,vs,st,K=>
  if i.rN draw g=true then
   y0 vs g∧(flag vs g=true→i.cE Γ (Src.ev env vs) st.m∧
     fH Γ draw r env (vs++[⟨true,i.val Γ (Src.ev env vs) st.m (st.nx+vs.length)⟩]) {st with m:=i.bA Γ (Src.ev env vs) st.m (st.nx+vs.length)} K)∧
    (flag vs g=false→fH Γ draw r env (vs++[⟨false,.any⟩]) st K)
  else
  Fg vs i g∧(flag vs g=true→i.cE Γ (Src.ev env vs) st.m)∧
   ((flag vs g=true→i.Au draw (Src.ev env vs))→∃d,(flag vs g=true→i.val Γ (Src.ev env vs) st.m (st.nx+vs.length)=d)∧
     fH Γ draw r env (vs++[⟨flag vs g,d⟩]) {st with m:=i.bA Γ (Src.ev env vs) st.m (st.nx+vs.length)} K)
mutual
@[go_sem] def gU (l k:Nat)(es:List D):D→D
 | .own l' k' i n=>if l'=l∧k'=k∧i+n≤es.length then .sl k ((es.drop i).take n)else .own l' k' i n
 | .ptr l' k' i o=>if l'=l∧k'=k then .ref k es i o else .ptr l' k' i o
 | .agg cs=>.agg (kK l k es cs)
 | .tup cs=>.tup (kK l k es cs)
 | .fn f cs=>.fn f (kK l k es cs)
 | .any=>.any
 | .bool b=>.bool b
 | .int k n=>.int k n
 | .str s=>.str s
 | .av=>.av
 | .sl k es=>.sl k es
 | .ref k es i o=>.ref k es i o
 | .nilp=>.nilp
 | .nilf=>.nilf
 | .it l=>.it l
@[go_sem] def kK (l k:Nat)(es:List D):List D→List D
 |[]=>[]
 |d::r=>gU l k es d::kK l k es r
end
@[go_sem] def oL (l k:Nat)(es:List D):aV→aV
 | .buf k' es'=>.buf k' (kK l k es es')
 |b=>b
@[go_sem] def mQ (l k:Nat)(es:List D):List (Nat×aV)→List (Nat×aV)
 |[]=>[]
 |(a,b)::r=>(a,oL l k es b)::mQ l k es r
@[go_sem] def lY (l k:Nat)(es:List D):List aW→List aW
 |[]=>[]
 |⟨ok,d⟩::r=>⟨ok,gU l k es d⟩::lY l k es r
@[go_sem] def En (l:Nat)(s:List aW×List (Nat×aV)):List aW×List (Nat×aV):=match look s.2 l with
 |some (.buf k es)=>bif aH es then(lY l k es s.1,mQ l k es (bN s.2 l))else s
 |_=>s
@[go_sem] def frzs:List Nat→List aW×List (Nat×aV)→List aW×List (Nat×aV)
 |[],s=>s
 |l::r,s=>frzs r (En l s)
inductive Ex where
 |normal|exit (id:Nat)|ret
@[go_sem] def eK (env vs:List aW):List (Nat×Nat)→List aW
 |[]=>env
 |(s,p)::r=>eK (env.set s (vs.getD p .un)) vs r
@[go_sem] def kG (lo:Nat)(σ:List (Nat×Nat))(l:Nat):Option Nat:=match σ with
 |[]=>bif Nat.blt l lo then some l else none
 |(a,b)::r=>bif Nat.beq a l then some b else kG lo r l
@[go_sem] def Ep (lo:Nat)(σ:List (Nat×Nat))(l:Nat)(f:Nat→D):Option D:=match kG lo σ l with
 |some l'=>some (f l')
 |none=>none
mutual
@[go_sem] def rZ (lo:Nat)(σ:List (Nat×Nat)):D→Option D
 | .own l k i n=>Ep lo σ l fun l=>.own l k i n
 | .ptr l k i o=>Ep lo σ l fun l=>.ptr l k i o
 | .it l=>Ep lo σ l fun l=>.it l
 | .agg cs=>match qc lo σ cs with
  |some cs=>some (.agg cs)
  |none=>none
 | .tup cs=>match qc lo σ cs with
  |some cs=>some (.tup cs)
  |none=>none
 | .fn f cs=>match qc lo σ cs with
  |some cs=>some (.fn f cs)
  |none=>none
 | .any=>some .any
 | .bool b=>some (.bool b)
 | .int k n=>some (.int k n)
 | .str s=>some (.str s)
 | .av=>some .av
 | .sl k es=>some (.sl k es)
 | .ref k es i o=>some (.ref k es i o)
 | .nilp=>some .nilp
 | .nilf=>some .nilf
@[go_sem] def qc (lo:Nat)(σ:List (Nat×Nat)):List D→Option (List D)
 |[]=>some []
 |d::r=>match rZ lo σ d,qc lo σ r with
  |some d,some r=>some (d::r)
  |_,_=>none
end
mutual
/--nil slices,taken VM the call's own -/
def qo:D→D→Prop
 | .av,d'=>d'=.av∨∃l k i,d'=.own l k i 0
 | .agg a,d'=>∃b,d'=.agg b∧Ap a b
 |d,d'=>d'=d∧d.aK=true
def Ap:List D→List D→Prop
 |[],b=>b=[]
 |d::r,b=>∃d' r',b=d'::r'∧qo d d'∧Ap r r'
end
def Hb (lo:Nat)(σ:List (Nat×Nat))(d d':D):Prop:=d'=d∧d.aK=true∨rZ lo σ d=some d'∨qo d d'
def n9 (lo:Nat)(σ:List (Nat×Nat)):aV→aV→Prop
 | .buf k es,.buf k' es'=>k'=k∧(es'=es∧aH es=true∨qc lo σ es=some es'∨Ap es es')
 | .iter s p,.iter s' p'=>s'=s∧p'=p
 | .row s,.row s'=>s'=s
 | .bld o n u,.bld o' n' u'=>(match o with
  |none=>o'=none
  |some l=>∃l',kG lo σ l=some l'∧o'=some l')∧n'=n∧u'=u
 |_,_=>False
def c8 (lo:Nat)(σ:List (Nat×Nat)):List aW→List aW→Prop
 |[],[]=>True
 |a::r,b::s=>(b.ok=a.ok∧Hb lo σ a.d b.d∨b=.un)∧c8 lo σ r s
 |_,_=>False
def aC (lo c:Nat)(σ:List (Nat×Nat))(m:List (Nat×aV)):List (Nat×aV)→Prop
 |[]=>True
 |(l',b')::r=>((∃l b,kG lo σ l=some l'∧look m l=some b∧n9 lo σ b b')∨(Nat.ble lo l'=true∧Nat.blt l' c=true∧σ.all (fun p=>!Nat.beq p.2 l')=true∧∃k,b'=.buf k []))∧aC lo c σ m r
def eW (lo c:Nat):List (Nat×Nat)→Bool
 |[]=>Nat.ble lo c
 |(a,b)::r=>(Nat.ble lo b&&(Nat.blt b c&&(r.all (fun p=>!Nat.beq p.1 a&& !Nat.beq p.2 b)&&eW lo c r)))
@[go_sem] def KS:List aW→List aW→Prop
 |[],[]=>True
 |a::r,b::s=>(b=a∨b=.un)∧KS r s
 |_,_=>False
@[go_sem] def GP (m:List (Nat×aV)):List (Nat×aV)→Prop
 |[]=>True
 |(l,b)::r=>look m l=some b∧GP m r
inductive sJ:D→D→Prop
 |refl (d:D):sJ d d
 |nil (k:Nat):sJ .av (.sl k [])
 |agg (a b:List D) (hl:b.length=a.length) (h:∀i,sJ (a.getD i .any) (b.getD i .any)):sJ (.agg a) (.agg b)
 |sl (k:Nat) (a b:List D) (hl:b.length=a.length) (h:∀i,sJ (a.getD i .any) (b.getD i .any)):sJ (.sl k a) (.sl k b)
def BF (a b:List D):Prop:=b.length=a.length∧∀i,sJ (a.getD i .any) (b.getD i .any)
def LO:aV→aV→Prop
 | .buf k es,.buf k' es'=>k'=k∧BF es es'
 |b,b'=>b'=b
def Jo:List aW→List aW→Prop
 |[],[]=>True
 |a::r,b::s=>(b.ok=a.ok∧sJ a.d b.d)∧Jo r s
 |_,_=>False
def CM (m:List (Nat×aV)):List (Nat×aV)→Prop
 |[]=>True
 |(l,b')::r=>(∃b,look m l=some b∧LO b b')∧CM m r
inductive aN (lo:Nat):List aW→St→List aW→St→Prop
 |refl (env:List aW) (st:St):aN lo env st env st
 |En (l:Nat) (env:List aW) (st:St):aN lo env st (En l (env,st.m)).1 ⟨st.nx,(En l (env,st.m)).2⟩
 |ren (σ:List (Nat×Nat)) (c:Nat) (env env':List aW) (nx:Nat) (m m':List (Nat×aV)) (h:eW lo c σ=true) (he:c8 lo σ env env') (hm:aC lo c σ m m'):aN lo env ⟨nx,m⟩ env' ⟨c,m'⟩
 |wk (env env':List aW) (nx:Nat) (m m':List (Nat×aV)) (he:KS env env') (hm:GP m m'):aN lo env ⟨nx,m⟩ env' ⟨nx,m'⟩
 |nz (env env':List aW) (nx:Nat) (m m':List (Nat×aV)) (he:Jo env env') (hm:CM m m'):aN lo env ⟨nx,m⟩ env' ⟨nx,m'⟩
 |trans (env1 env2 env3:List aW) (st1 st2 st3:St) (h:aN lo env1 st1 env2 st2) (h':aN lo env2 st2 env3 st3):aN lo env1 st1 env3 st3
def Gh (lo:Nat)(p:List aW→St→Prop)(env:List aW)(st:St):Prop:=∃env' st',aN lo env st env' st'∧p env' st'
def bB (Γ:Ctx):AC→(Ex→List aW→St→Prop)→List aW→St→Prop
 | .reg draw ins cm,Q=>Gh Γ.lo fun env st=>fH Γ draw ins env [] st fun vs st'=>Q .normal (eK env vs cm) st'
 | .seq a b,Q=>Gh Γ.lo (bB Γ a (fun e env st=>match e with
   | .normal=>bB Γ b Q env st
   |e=>Q e env st))
 | .cond c a b,Q=>Gh Γ.lo fun env st=>(c.ev env []).ok=true∧match(c.ev env []).d with
  | .bool t=>(t=true→bB Γ a Q env st)∧(t=false→bB Γ b Q env st)
  |_=>False
 | .block id a,Q=>Gh Γ.lo (bB Γ a (fun e env st=>match e with
   | .exit j=>if j=id then Q .normal env st else Q (.exit j) env st
   |e=>Q e env st))
 | .loop a,Q=>Gh Γ.lo fun env st=>∃(I:List aW→St→Prop) (μ:List aW→St→Nat),
   I env st∧∀env st,I env st→
   bB Γ a (fun e env' st'=>match e with
    | .normal=>∃env2 st2,aN Γ.lo env' st' env2 st2∧I env2 st2∧μ env2 st2<μ env st
    |e=>Q e env' st') env st
 | .exit id,Q=>Gh Γ.lo (Q (.exit id))
 | .ret,Q=>Gh Γ.lo (Q .ret)
 | .skip,Q=>Gh Γ.lo (Q .normal)
def Ctx.at (Γ:Ctx)(n:Nat):Ctx:={Γ with lo:=n}
@[go_sem] def zI (m:List (Nat×aV))(env:List aW)(r:Am):D:=match r.mem with
 |none=>(env.getD r.s .un).d
 |some (n,ag)=>zd m n ag (env.getD r.s .un).d
@[go_sem] def mn (m:List (Nat×aV))(env:List aW):List Am→Prop
 |[]=>True
 |r::rs=>(env.getD r.s .un).ok=true∧(match r.mem with
   |none=>True
   |some (n,_)=>Al m n (env.getD r.s .un).d)∧mn m env rs
@[go_sem] def mq (m:List (Nat×aV))(env:List aW):List Am→List D
 |[]=>[]
 |r::rs=>zI m env r::mq m env rs
@[go_sem] def iF (a:aB)(env:List aW)(st:St):D:=match a.res with
 |[r]=>zI st.m env r
 |rs=>.tup (mq st.m env rs)
@[go_sem] def IW (a:aB)(env:List aW)(st:St):D:=match a.res with
 |[r]=>gB st.m (a.rsh.getD 0 []) (zI st.m env r)
 |rs=>.tup (dP st.m a.rsh (mq st.m env rs))
@[go_sem] def Cl (a:aB)(env:List aW)(st:St):Prop:=match a.res with
 |[r]=>eN st.m (a.rsh.getD 0 []) (zI st.m env r)
 |rs=>gh st.m a.rsh (mq st.m env rs)
@[go_sem] def Ex.home:Ex→Prop
 | .exit _=>False
 |_=>True
@[go_sem] def eL (a:aB)(ds:List D):List aW:=(ds.map fun d=>⟨true,d⟩)++List.replicate (a.ns-a.np) .un
mutual
def dj:Value→Option D
 | .bool b=>some (.bool b)
 | .int k n=>some (.int k n)
 | .string s=>if s.size≤9223372036854775807 then some (.str s.data.toList)else none
 | .pointer none=>some .nilp
 | .slice none 0 0=>some .av
 | .nilFunc=>some .nilf
 | .agg ⟨cs⟩=>if pC cs then(nF cs).map .agg else none
 |_=>none
def nF:List Value→Option (List D)
 |[]=>some []
 |v::r=>match dj v,nF r with
  |some d,some ds=>some (d::ds)
  |_,_=>none
def pC:List Value→Bool
 |[]=>true
 |v::r=>(match v with
  | .agg _=>false
  | .tuple _=>false
  |_=>true)&&pC r
end
def zO (P:Program):Nat→TypeId→List Sh
 |0,_=>[.a]
 |d+1,t=>match P.underlying t with
  |some (.struct fs)=>(fs.toList.map fun f=>zO P d f.type).flatten
  |some (.array n e)=>(List.replicate n (zO P d e)).flatten
  |some (.slice e)=>[.sl (P.cellsOf e) (zO P d e)]
  |some (.pointer e)=>[.pt (zO P d e)]
  |_=>[.a]
structure CC where
 P:Program
 ν:List (Nat×Nat)
 bA:List Nat
 slots:List Nat
 ntmps:Nat
 /--what is called through a value may change memory -/
 vm:Bool
def sn:List Nat→Nat→Option Nat
 |[],_=>none
 |a::r,t=>if a=t then some 0 else(sn r t).map (· +1)
def c9:List (Nat×Nat)→Nat→Option Nat
 |[],_=>none
 |(a,b)::r,l=>if a=l then some b else c9 r l
def posOf (t:Nat):List (Option Nat)→Option Nat
 |[]=>none
 |a::r=>if a=some t then some 0 else(posOf t r).map (· +1)
def CC.src (C:CC)(defs:List (Option Nat)):Operand→Option Src
 | .tmp t=>match posOf t defs with
  |some p=>some (.l p)
  |none=>(sn C.slots t).map .s
 | .const v=>(dj v).map .c
 | .func f=>(c9 C.ν f).map fun n=>.c (.fn n [])
 | .global _=>none
def CC.ph (C:CC)(defs:List (Option Nat)):List Operand→Option (List Src)
 |[]=>some []
 |x::r=>match C.src defs x,C.ph defs r with
  |some a,some l=>some (a::l)
  |_,_=>none
def CC.opt (C:CC)(defs:List (Option Nat)):Option Operand→Option (Option Src)
 |none=>some none
 |some x=>(C.src defs x).map some
def bh (P:Program)(t:TypeId):Bool:=match P.underlying t with
 |some (.struct _)=>true
 |some (.array ..)=>true
 |_=>false
def iT (P:Program)(k:TypeId→Option (List CK)):Nat→List Field→Option (List CK)
 |_,[]=>some []
 |off,f::r=>if f.name= "_" ∨f.offset≠off then none else
  match k f.type,iT P k (off+P.cellsOf f.type) r with
  |some a,some b=>if a.length=P.cellsOf f.type∧a.length≠0∧(P.underlying f.type).isNone=false then some (a++b)else none
  |_,_=>none
def dR (P:Program):Nat→TypeId→Option (List CK)
 |0,_=>none
 |d+1,t=>match P.underlying t with
  |some .bool=>some [.b]
  |some (.int k)=>some [.i k]
  |some .string=>some [.s]
  |some (.struct fs)=>if P.stoodInHeld t then none else iT P (fun t=>dR P d t) 0 fs.toList
  |some (.array n e)=>match dR P d e with
   |some l=>if l.length=P.cellsOf e∧l.length≠0∧(P.underlying e).isNone=false then some (List.replicate n l).flatten else none
   |none=>none
  |_=>none
def CC.parts (C:CC)(defs:List (Option Nat))(place:Nat→Option (Nat×Nat)):List (Nat×Operand)→Option (List (Nat×Nat×Src))
 |[]=>some []
 |(i,x)::r=>match place i,C.src defs x,C.parts defs place r with
  |some (o,n),some s,some l=>if n=0 then none else some ((o,n,s)::l)
  |_,_,_=>none
def CC.qZ (C:CC)(defs:List (Option Nat)):List (Nat×Operand)→Option (List (Nat×Src))
 |[]=>some []
 |(i,x)::r=>match C.src defs x,C.qZ defs r with
  |some s,some l=>some ((i,s)::l)
  |_,_=>none
def ou (P:Program)(t:TypeId):Option D:=((P.info? t).bind (·.zero)).bind dj
def lv (P:Program)(t:TypeId):Bool:=match ou P t with
 |some z=>z.cells.length==P.cellsOf t
 |none=>false
def CC.op (C:CC)(defs:List (Option Nat))(o:Oper):Option aw:=
 match o.op with
 | .move x=>(C.src defs x).map .mv
 | .assign x=>(C.src defs x).map .mv
 | .pick c a b=>match C.src defs c,C.src defs a,C.src defs b with
  |some c,some a,some b=>some (.pick c a b)
  |_,_,_=>none
 | .alloc t=>match ou C.P t with
  |some z=>if C.P.cellsOf t=0 then none else if C.bA.contains (1000000000+t)then(match z with
   | .agg [.nilp,.av]=>some .mkB
   |_=>none)else some (.box (C.P.cellsOf t) (.c z))
  |none=>none
 | .box t x=>match C.src defs x with
  |some s=>if C.P.cellsOf t=0 then none else some (.box (C.P.cellsOf t) s)
  |none=>none
 | .build t ps=>match ou C.P t,C.P.underlying t with
  |some (.agg z),some (.struct fs)=>if fs.toList.all (fun f=>(C.P.info? f.type).isSome)then(C.parts defs (fun i=>(fs[i]?).map fun f=>(f.offset,C.P.cellsOf f.type)) ps.toList).map (.build z)else none
  |some (.agg z),some (.array _ e)=>if C.P.cellsOf e=0 then none else(C.parts defs (fun i=>some (i*C.P.cellsOf e,C.P.cellsOf e)) ps.toList).map (.build z)
  |_,_=>none
 | .buildSlice t n ps=>match C.P.underlying t with
  |some (.slice e)=>match ou C.P e,C.qZ defs ps.toList with
   |some z,some l=>if C.P.cellsOf e=0∨n*C.P.cellsOf e>16777216 then none else some (.bsl (C.P.cellsOf e) z n l)
   |_,_=>none
  |_=>none
 | .load t a=>match C.src defs a with
  |some s=>if C.P.cellsOf t=0∨(C.P.underlying t).isNone∨(bh C.P t=false∧C.P.cellsOf t≠1)then none else some (.ld (C.P.cellsOf t) (bh C.P t) s)
  |none=>none
 | .store t a x=>match C.src defs a,C.src defs x with
  |some a,some x=>if C.P.cellsOf t=0 then none else some (.st (C.P.cellsOf t) a x)
  |_,_=>none
 | .nilCheck x=>(C.src defs x).map .nilck
 | .binOp op t x y _=>match C.src defs x,C.src defs y with
  |some a,some b=>match C.P.underlying t with
   |some (.int _)=>some (.bin op a b)
   |some .string=>some (.bin op a b)
   |_=>if C.P.eqGuardType C.P.depth t then none else match dR C.P 30 t,op with
    |some ks,.eql=>some (.eqA false (bh C.P t) ks a b)
    |some ks,.neq=>some (.eqA true (bh C.P t) ks a b)
    |_,_=>none
  |_,_=>none
 | .unOp op _ x=>(C.src defs x).map (.un op)
 | .convert s d x=>match C.P.underlying s,C.P.underlying d,C.src defs x with
  |some (.int _),some (.int k),some a=>some (.cvi k a)
  |some (.int _),some .string,some a=>some (.i2s a)
  |some .string,some (.slice e),some a=>match C.P.underlying e with
   |some (.int .u8)=>some (.s2b a)
   |_=>none
  |some (.slice e),some .string,some a=>match C.P.underlying e with
   |some (.int .u8)=>some (.b2s a)
   |_=>none
  |_,_,_=>none
 | .makeFunc (.func f) first caps=>match c9 C.ν f,C.ph defs caps.toList with
  |some n,some l=>if first.isEmpty then some (.mkf n l)else if l.isEmpty then(C.ph defs first.toList).map (.mkf (n+1000000))else none
  |_,_=>none
 | .makeSlice t l c=>match C.P.underlying t with
  |some (.slice e)=>match ou C.P e,C.src defs l,C.src defs c with
   |some z,some l,some c=>if C.P.cellsOf e=0∨C.P.bytesOf e>65536 then none else some (.mks (C.P.cellsOf e) z l c)
   |_,_,_=>none
  |_=>none
 | .slice t x lo hi mx=>match C.P.underlying t,C.src defs x,C.opt defs lo,C.opt defs hi,mx with
  |some .string,some a,some l,some h,none=>some (.slS a l h)
  |some (.slice e),some a,some l,some h,none=>if C.P.cellsOf e=0 then none else some (.slA (C.P.cellsOf e) a l h)
  |some (.slice e),some a,some none,some (some h),some m=>match C.src defs m with
   |some m=>if C.P.cellsOf e=0 then none else some (.slX (C.P.cellsOf e) a h m)
   |none=>none
  |_,_,_,_,_=>none
 | .fieldAddr t x f=>match C.P.underlying t,C.src defs x with
  |some (.struct fs),some a=>match fs[f]? with
   |some f=>if C.P.cellsOf f.type=0 then none else some (.fa f.offset a)
   |none=>none
  |_,_=>none
 | .field t x f=>match C.P.underlying t,C.src defs x with
  |some (.struct fs),some a=>match fs[f]? with
   |some f=>if C.P.cellsOf f.type=0∨(C.P.underlying f.type).isNone then none else some (.fld f.offset (C.P.cellsOf f.type) (bh C.P f.type) a)
   |none=>none
  |_,_=>none
 | .indexAddr t x i=>match C.P.underlying t,C.src defs x,C.src defs i with
  |some (.slice e),some a,some b=>if C.P.cellsOf e=0 then none else some (.ia (C.P.cellsOf e) a b)
  |some (.array n e),some a,some b=>if C.P.cellsOf e=0 then none else some (.iaP n (C.P.cellsOf e) a b)
  |_,_,_=>none
 | .index t x i=>match C.P.underlying t,C.src defs x,C.src defs i with
  |some .string,some a,some b=>some (.ixS a b)
  |some (.array n e),some a,some b=>if C.P.cellsOf e=0∨(C.P.underlying e).isNone then none else some (.ixA n (C.P.cellsOf e) (bh C.P e) a b)
  |_,_,_=>none
 | .range t x=>match C.P.underlying t,C.src defs x with
  |some .string,some a=>some (.rng a)
  |_,_=>none
 | .next it true=>(C.src defs it).map .ve
 | .extract t i=>(C.src defs t).map fun s=>.ext s i
 | .call c=>match c.callee with
  | .builtin .len=>match c.args.toList,c.argTypes.toList with
   |[x],[t]=>match C.src defs x,C.P.underlying t with
    |some a,some .string=>some (.lenS a)
    |some a,some (.slice _)=>some (.len a)
    |_,_=>none
   |_,_=>none
  | .builtin .append=>match c.args.toList,c.argTypes.toList with
   |[x,y],[t,u]=>match C.src defs x,C.src defs y,C.P.underlying t,C.P.underlying u with
    |some a,some b,some (.slice e),some (.slice _)=>if C.P.cellsOf e=0∨C.P.bytesOf e>65536∨C.P.bytesOf e=0∨lv C.P e=false then none else some (.app (C.P.cellsOf e) a b)
    |some a,some b,some (.slice e),some .string=>if C.P.cellsOf e=0∨C.P.bytesOf e>65536∨C.P.bytesOf e=0∨lv C.P e=false then none else some (.app (C.P.cellsOf e) a b)
    |_,_,_,_=>none
   |_,_=>none
  | .value (.func f)=>match c9 C.ν f,C.ph defs c.args.toList with
   |some n,some l=>if C.bA.contains (2*n)then some (.callM n l)else if C.bA.contains (2*n+1)then(match l with
     |r::rest=>some (.callF n r rest ((c.argTypes.toList.map (zO C.P 8)).drop 1))
     |[]=>none)else some (.call n l (c.argTypes.toList.map (zO C.P 8)))
   |_,_=>none
  | .value (.tmp t)=>match C.src defs (.tmp t),C.ph defs c.args.toList with
   |some s,some l=>if C.vm then some (.callvM s l)else some (.callv s l (c.argTypes.toList.map (zO C.P 8)))
   |_,_=>none
  |_=>none
 |_=>none
def CC.guard (defs:List (Option Nat)):Option (Nat×Bool)→Option (Option (Nat×Bool))
 |none=>some none
 |some (j,w)=>match defs[j]? with
  |some (some _)=>some (some (j,w))
  |_=>none
def CC.ops (C:CC):(defs:List (Option Nat))→List Oper→Option (List GI)
 |_,[]=>some []
 |defs,o::r=>match C.op defs o,CC.guard defs o.guard,C.ops (defs++[o.dst]) r with
  |some i,some g,some l=>if o.dst.all (fun d=>d<C.ntmps&& !defs.contains (some d))then some (⟨i,g⟩::l)else none
  |_,_,_=>none
def CC.eF (C:CC):Nat→List Oper→List (Nat×Nat)
 |_,[]=>[]
 |p,o::r=>match o.dst.bind (sn C.slots)with
  |some s=>(s,p)::C.eF (p+1) r
  |none=>C.eF (p+1) r
def lW (acc:List Nat):List Edge→Nat
 |[]=>0
 |e::r=>if Region.binds .any e then(2^e.on |||acc.getD e.on 0) |||lW acc r else lW acc r
def kO:List Nat→List Oper→List Nat
 |acc,[]=>acc
 |acc,o::r=>kO (acc++[lW acc o.after.toList]) r
def tmpsOf (ops:List Oper)(o:Oper):List Nat:=
 (o.op.operands.toList.filterMap fun
   | .tmp t=>some t
   |_=>none)++(match o.guard with
   |some (g,_)=>((ops[g]?).bind (·.dst)).toList
   |none=>[])
def Cj (ops:List Oper)(bs:List Nat):Bool:=
 (List.range ops.length).all fun j=>(List.range ops.length).all fun p=>match ops[j]?,ops[p]? with
   |some oj,some op=>match op.dst with
    |some t=>p==j ||!(tmpsOf ops oj).contains t ||(bs.getD (max j p) 0).testBit (min j p)
    |none=>true
   |_,_=>false
def aw.pure:aw→Bool
 | .mv _=>true
 | .pick .. =>true
 | .build .. =>true
 | .nilck _=>true
 | .bin .. =>true
 | .eqA .. =>true
 | .un .. =>true
 | .cvi .. =>true
 | .i2s _=>true
 | .mkf .. =>true
 | .slS .. =>true
 | .slA .. =>true
 | .slX .. =>true
 | .fa .. =>true
 | .fld .. =>true
 | .ia .. =>true
 | .iaP .. =>true
 | .ixS .. =>true
 | .ixA .. =>true
 | .ext .. =>true
 | .len _=>true
 | .lenS _=>true
 | .ldI .. =>true
 | .bslI .. =>true
 |_=>false
def Sh.LR:Sh→Bool
 | .a=>true
 |_=>false
def aw.free:aw→Bool
 | .call _ _ sh=>sh.all fun s=>s.all Sh.LR
 |i=>i.pure
def aw.fZ:aw→Bool
 | .box .. =>true
 | .bsl .. =>true
 | .mks .. =>true
 | .s2b .. =>true
 | .rng .. =>true
 | .mkB=>true
 |_=>false
def aw.isApp:aw→Bool
 | .app .. =>true
 |_=>false
def aw.jB:aw→Bool
 | .callF .. =>true
 |_=>false
def aw.pT:aw→Bool
 | .ldU .. =>true
 |_=>false
def exU (l:List GI)(gj gi:aw)(j i:Nat):Bool:=gj.jB&&(gi.pT&&(decide (i<j)&&(List.range j).all fun q=>decide (q≤i) ||match l[q]? with
 |some g=>g.i.calm ||g.i.jB
 |none=>true))
def Jr (l:List GI)(bs:List Nat):Bool:=
 (List.range l.length).all fun j=>(List.range l.length).all fun i=>match l[j]?,l[i]? with
   |some gj,some gi=>gj.i.calm ||gi.i.free ||(gi.i.fZ&& !gj.i.isApp) ||i==j ||(bs.getD (max j i) 0).testBit (min j i) ||exU l gj.i gi.i j i
   |_,_=>false
def aw.cb:aw→Bool
 | .callM .. =>true
 | .callvM .. =>true
 |_=>false
def sN:Nat→List Oper→Bool
 |_,[]=>true
 |p,o::r=>o.after.toList.all (fun e=>!Region.binds .any e ||decide (e.on<p))&&sN (p+1) r
def B3 (l:List GI)(bs:List Nat):Bool:=match l.getLast? with
 |some ⟨.callM ..,none⟩=>(List.range (l.length-1)).all (fun p=>(bs.getD (l.length-1) 0).testBit p)&&l.dropLast.all fun g=>!g.i.cb
 |_=>false
def tF (ops:List Oper)(l:List GI):Bool:=
 let bs:=kO [] ops
 Cj ops bs&&(Jr l bs&&(((l.all fun g=>!g.i.cb) ||B3 l bs)&&sN 0 ops))
def aw.LD:aw→aw
 | .app k (.c .av) y=>.appN k y
 |i=>i
def looseAt (bs:List Nat)(l:List GI)(i:Nat):Bool:=
 (List.range l.length).any fun j=>match l[j]? with
   |some gj=>!(gj.i.LD.calm ||i==j ||(bs.getD (max j i) 0).testBit (min j i))
   |none=>false
def KT (bs:List Nat)(l:List GI)(i:Nat):Bool:=
 (List.range l.length).all fun j=>match l[j]? with
   |some gj=>gj.i.LD.calm ||i==j ||(bs.getD (max j i) 0).testBit (min j i) ||(gj.i.jB&&(decide (i<j)&&(List.range j).all fun q=>decide (q≤i) ||match l[q]? with
    |some g=>g.i.LD.calm ||g.i.jB
    |none=>true))
   |none=>true
def KN (bs:List Nat)(l:List GI)(p:Nat):Bool:=
 (List.range l.length).any fun j=>match l[j]? with
   |some ⟨.ia _ (.l q) _,_⟩=>Nat.beq q p&&(List.range l.length).any fun i=>match l[i]? with
    |some ⟨.ld _ _ (.l r),_⟩=>Nat.beq r j&&looseAt bs l i
    |_=>false
   |_=>false
def jg (bs:List Nat)(l0:List GI):Nat→List GI→List GI
 |_,[]=>[]
 |p,g::r=>(match g.i with
  | .ld n ag x=>if looseAt bs l0 p then(if KT bs l0 p then⟨.ldU n ag x,g.g⟩else⟨.ldI n ag x,g.g⟩)else g
  | .bsl k z n ps=>if KN bs l0 p then⟨.bslI k z n ps,g.g⟩else g
  |i=>⟨i.LD,g.g⟩)::jg bs l0 (p+1) r
def CC.code (C:CC):Code→Option AC
 | .skip=>some .skip
 | .region _ ops draw=>match C.ops [] ops.toList with
  |some l=>if draw then
    if tF ops.toList (jg (kO [] ops.toList) l 0 l)then some (.reg true (jg (kO [] ops.toList) l 0 l) (C.eF 0 ops.toList))else none
   else some (.reg false l (C.eF 0 ops.toList))
  |none=>none
 | .seq a b=>match C.code a,C.code b with
  |some a,some b=>some (.seq a b)
  |_,_=>none
 | .cond c a b=>match C.src [] c,C.code a,C.code b with
  |some c,some a,some b=>some (.cond c a b)
  |_,_,_=>none
 | .block id a=>(C.code a).map (.block id)
 | .loop a=>(C.code a).map .loop
 | .exit id=>some (.exit id)
 | .ret=>some .ret
 | .scope a=>C.code a
 | .label _=>some .skip
 |_=>none
def Cx:(defs:List (Option Nat))→List Oper→List Nat
 |_,[]=>[]
 |defs,o::r=>(o.op.operands.toList.filterMap fun
   | .tmp t=>if(posOf t defs).isNone then some t else none
   |_=>none)++Cx (defs++[o.dst]) r
def uU:Code→List Nat
 | .region _ ops _=>Cx [] ops.toList
 | .seq a b=>uU a++uU b
 | .cond c a b=>(match c with
  | .tmp t=>[t]
  |_=>[])++uU a++uU b
 | .block _ a=>uU a
 | .loop a=>uU a
 | .scope a=>uU a
 |_=>[]
def nS:List ResultVar→List Nat
 |[]=>[]
 | .tmp t::r=>t::nS r
 | .cell t _::r=>t::nS r
def dedup:List Nat→List Nat→List Nat
 |acc,[]=>acc.reverse
 |acc,a::r=>if acc.contains a then dedup acc r else dedup (a::acc) r
def qb (P:Program)(sl:List Nat):List ResultVar→Option (List Am)
 |[]=>some []
 | .tmp t::r=>match sn sl t,qb P sl r with
  |some a,some l=>some (⟨a,none⟩::l)
  |_,_=>none
 | .cell t ty::r=>match sn sl t,qb P sl r with
  |some a,some l=>if P.cellsOf ty=0∨(P.underlying ty).isNone∨(bh P ty=false∧P.cellsOf ty≠1)then none else some (⟨a,some (P.cellsOf ty,bh P ty)⟩::l)
  |_,_=>none
def slotsOf (fn:Func):List Nat:=dedup [] (List.range (fn.params.size+fn.nfree)++nS fn.results.toList++uU (fn.body.getD .skip))
def Oa (P:Program)(ops:List Oper):Bool:=ops.any fun o=>match o.op with
 | .makeFunc _ first _=>!first.isEmpty
 | .call c=>(match c.callee with
  | .value (.tmp _)=>c.argTypes.toList.any fun t=>match P.underlying t with
   |some (.pointer _)=>true
   |_=>false
  |_=>false)
 |_=>false
def z6 (P:Program):Code→Bool
 | .region _ ops _=>Oa P ops.toList
 | .seq a b=>z6 P a ||z6 P b
 | .cond _ a b=>z6 P a ||z6 P b
 | .block _ a=>z6 P a
 | .loop a=>z6 P a
 | .scope a=>z6 P a
 |_=>false
def Ed (P:Program)(fn:Func):Bool:=z6 P (fn.body.getD .skip)
def compile (P:Program)(ν:List (Nat×Nat))(bA:List Nat)(fn:Func):Option aB:=
 match fn.body with
 |some body=>
  match CC.code {P,ν,bA,slots:=slotsOf fn,ntmps:=fn.ntmps,vm:=Ed P fn} body,qb P (slotsOf fn) fn.results.toList with
  |some a,some res=>
   if fn.params.size+fn.nfree≤fn.ntmps then some {np:=fn.params.size+fn.nfree,ns:=(slotsOf fn).length,res,rsh:=fn.resultTypes.toList.map (zO P 8),body:=a}else none
  |_,_=>none
 |none=>none
end Go.Abs
section
namespace Go.Abs
structure X where
 w:World
 I:Nat→Prop
 β:Nat→Option (Nat×Nat×Nat)
inductive RD (ν:List (Nat×Nat))(x:X):Value→D→Prop
 |any (v:Value):RD ν x v .any
 |bool (b:Bool):RD ν x (.bool b) (.bool b)
 |int (k:IntKind) (n:Int):RD ν x (.int k n) (.int k n)
 |str (s:List UInt8) (h:s.length≤maxLen):RD ν x (.string ⟨⟨s⟩⟩) (.str s)
 |agg (cs:Array Value) (ds:List D) (hl:cs.size=ds.length) (h1:∀i,i<ds.length→(cs.getD i undef).oneCell'=true)
   (h:∀i,i<ds.length→RD ν x (cs.getD i undef) (ds.getD i .any)):RD ν x (.agg cs) (.agg ds)
 |tup (cs:Array Value) (ds:List D) (hl:cs.size=ds.length)
   (h:∀i,i<ds.length→RD ν x (cs.getD i undef) (ds.getD i .any)):RD ν x (.tuple cs) (.tup ds)
 |av:RD ν x (.slice none 0 0) .av
 |sl (a:Option Addr) (b off len cap k:Nat) (es:List D) (c:Nat→Nat→Value) (hlen:len=es.length)
   (ha:es=[]∨(a=some ⟨b,off,none⟩∧x.I b)) (hcap:len≤cap) (hm:cap≤maxLen)
   (hk:∀i,i<len→(es.getD i .any).cells.length=k) (hn:∀i,i<len→(es.getD i .any).aK=true)
   (hc:∀i j,i<len→j<k→x.w.cell? ⟨b,off+i*k+j,none⟩=some (c i j))
   (h1:∀i j,i<len→j<k→(c i j).oneCell'=true)
   (h:∀i j,i<len→j<k→RD ν x (c i j) ((es.getD i .any).cells.getD j .any)):RD ν x (.slice a len cap) (.sl k es)
 |ref (b off k i o at_:Nat) (es:List D) (c:Nat→Nat→Value) (hI:x.I b) (hat:at_=off+i*k+o)
   (hk:∀i,i<es.length→(es.getD i .any).cells.length=k) (hn:∀i,i<es.length→(es.getD i .any).aK=true)
   (hc:∀i j,i<es.length→j<k→x.w.cell? ⟨b,off+i*k+j,none⟩=some (c i j))
   (h1:∀i j,i<es.length→j<k→(c i j).oneCell'=true)
   (h:∀i j,i<es.length→j<k→RD ν x (c i j) ((es.getD i .any).cells.getD j .any)):RD ν x (.pointer (some ⟨b,at_,none⟩)) (.ref k es i o)
 |ptr (l k i o b base tot at_:Nat) (hβ:x.β l=some (b,base,tot)) (hat:at_=base+i*k+o):RD ν x (.pointer (some ⟨b,at_,none⟩)) (.ptr l k i o)
 |own (l k i n b base tot cap:Nat) (a:Addr) (hβ:x.β l=some (b,base,tot)) (ha:0<cap→a=⟨b,base+i*k,none⟩)
   (hcap:n≤cap) (hm:cap≤maxLen) (ht:i+cap≤tot):RD ν x (.slice (some a) n cap) (.own l k i n)
 |own0 (l k i:Nat):RD ν x (.slice none 0 0) (.own l k i 0)
 |nilp:RD ν x (.pointer none) .nilp
 |fn (fid n:Nat) (cs:Array Value) (ds:List D) (hν:c9 ν fid=some n) (hl:cs.size=ds.length)
   (h:∀i,i<ds.length→RD ν x (cs.getD i undef) (ds.getD i .any)):RD ν x (.func (.func fid) #[] cs) (.fn n ds)
 |cM (fid n:Nat) (fs:Array Value) (ds:List D) (hν:c9 ν fid=some n) (hl:fs.size=ds.length)
   (h:∀i,i<ds.length→RD ν x (fs.getD i undef) (ds.getD i .any)):RD ν x (.func (.func fid) fs #[]) (.fn (n+1000000) ds)
 |nilf:RD ν x .nilFunc .nilf
 |it (l b base tot:Nat) (hβ:x.β l=some (b,base,tot)):RD ν x (.pointer (some ⟨b,0,none⟩)) (.it l)
section
variable {ν:List (Nat×Nat)} {x x':X}
structure Le (x x':X):Prop where
 I:∀b,x.I b→x'.I b
 lJ:∀b,x.I b→x'.w.heap[b]? =x.w.heap[b]?
 β:∀l p,x.β l=some p→x'.β l=some p
def kP {w w':World}{b o:Nat}{v:Value}(h:w'.heap[b]? =w.heap[b]?)(hc:w.cell? ⟨b,o,none⟩=some v):w'.cell? ⟨b,o,none⟩=some v:=by
 rw[←hc];unfold World.cell?;simp only[h]
def Le.refl (x:X):Le x x:=⟨fun _ h=>h,fun _ _=>rfl,fun _ _ h=>h⟩
def Le.trans {x'':X}(h:Le x x')(h':Le x' x''):Le x x'':=
 ⟨fun b hb=>h'.I b (h.I b hb),fun b hb=>(h'.lJ b (h.I b hb)).trans (h.lJ b hb),fun l p hp=>h'.β l p (h.β l p hp)⟩
def RD.mono {v:Value}{d:D}(h:RD ν x v d)(hl:Le x x'):RD ν x' v d:=by
 induction h with
 |any v=>exact .any v
 |bool b=>exact .bool b
 |int k n=>exact .int k n
 |str s h=>exact .str s h
 |agg cs ds hl' h1 _ ih=>exact .agg cs ds hl' h1 ih
 |tup cs ds hl' _ ih=>exact .tup cs ds hl' ih
 |av=>exact .av
 |sl a b off len cap k es c hlen ha hcap hm hk hn hc h1 _ ih=>
  refine .sl a b off len cap k es c hlen (ha.imp id fun⟨p,q⟩=>⟨p,hl.I _ q⟩) hcap hm hk hn (fun i j hi hj=>?_) h1 ih;rcases ha with rfl|⟨_,hI⟩
  ·simp at hlen;omega
  ·exact kP (hl.lJ _ hI) (hc i j hi hj)
 |ref b off k i o at_ es c hI hat hk hn hc h1 _ ih=>
  exact .ref b off k i o at_ es c (hl.I _ hI) hat hk hn (fun i j hi hj=>kP (hl.lJ _ hI) (hc i j hi hj)) h1 ih
 |ptr l k i o b base tot at_ hβ hat=>exact .ptr l k i o b base tot at_ (hl.β _ _ hβ) hat
 |own l k i n b base tot cap a hβ ha hcap hm ht=>exact .own l k i n b base tot cap a (hl.β _ _ hβ) ha hcap hm ht
 |own0 l k i=>exact .own0 l k i
 |nilp=>exact .nilp
 |fn fid n cs ds hν hl' _ ih=>exact .fn fid n cs ds hν hl' ih
 |cM fid n cs ds hν hl' _ ih=>exact .cM fid n cs ds hν hl' ih
 |nilf=>exact .nilf
 |it l b base tot hβ=>exact .it l b base tot (hl.β _ _ hβ)
def bS:∀{ds:List D},aH ds=true→∀i,(ds.getD i .any).aK=true
 |[],_,i=>by simp[D.aK]
 |d::r,h,0=>by simp[aH]at h;simpa using h.1
 |d::r,h,i+1=>by simp[aH]at h;simpa using bS h.2 i
def fF:∀{ds:List D},jW ds=true→∀i,(ds.getD i .any).dr=true
 |[],_,i=>by simp[D.dr]
 |d::r,h,0=>by simp[jW]at h;simpa using h.1
 |d::r,h,i+1=>by simp[jW]at h;simpa using fF h.2 i
def m6:∀{ds:List D},(∀i,i<ds.length→(ds.getD i .any).aK=true)→aH ds=true
 |[],_=>rfl
 |d::r,h=>by
  simp only[aH,Bool.and_eq_true];exact⟨by simpa using h 0 (by simp),m6 fun i hi=>by simpa using h (i+1) (by simp;omega)⟩
def iA {d:D}(h:d.aK=true)(j:Nat):(d.cells.getD j .any).aK=true:=by
 cases d<;>simp only[D.cells]<;>first
  |(simp only[D.aK]at h;exact bS h j)
  |(cases j<;>simp_all[D.aK])
def RD.aK {v:Value}{d:D}(h:RD ν x v d)(hn:d.aK=true)(hI:∀b,x.I b→x'.I b)(hk:∀b,x.I b→x'.w.heap[b]? =x.w.heap[b]?):RD ν x' v d:=by
 induction h with
 |any v=>exact .any v
 |bool b=>exact .bool b
 |int k n=>exact .int k n
 |str s h=>exact .str s h
 |agg cs ds hl' h1 _ ih=>exact .agg cs ds hl' h1 fun i hi=>ih i hi (bS (by simpa[D.aK]using hn) i)
 |tup cs ds hl' _ ih=>exact .tup cs ds hl' fun i hi=>ih i hi (bS (by simpa[D.aK]using hn) i)
 |av=>exact .av
 |sl a b off len cap k es c hlen ha hcap hm hk' hn' hc h1 _ ih=>
  refine .sl a b off len cap k es c hlen (ha.imp id fun⟨p,q⟩=>⟨p,hI _ q⟩) hcap hm hk' hn' (fun i j hi hj=>?_) h1 fun i j hi hj=>ih i j hi hj (iA (hn' i hi) j)
  rcases ha with rfl|⟨_,hIb⟩
  ·simp at hlen;omega
  ·exact kP (hk _ hIb) (hc i j hi hj)
 |ref b off k i o at_ es c hIb hat hk' hn' hc h1 _ ih=>
  exact .ref b off k i o at_ es c (hI _ hIb) hat hk' hn' (fun i j hi hj=>kP (hk _ hIb) (hc i j hi hj)) h1 fun i j hi hj=>ih i j hi hj (iA (hn' i hi) j)
 |ptr=>simp[D.aK]at hn
 |own=>simp[D.aK]at hn
 |own0=>simp[D.aK]at hn
 |nilp=>exact .nilp
 |fn fid n cs ds hν hl' _ ih=>exact .fn fid n cs ds hν hl' fun i hi=>ih i hi (bS (by simpa[D.aK]using hn) i)
 |cM fid n cs ds hν hl' _ ih=>exact .cM fid n cs ds hν hl' fun i hi=>ih i hi (bS (by simpa[D.aK]using hn) i)
 |nilf=>exact .nilf
 |it=>simp[D.aK]at hn
def RD.dr {v:Value}{d:D}(h:RD ν x v d)(hn:d.dr=true):RD ν x' v d:=by
 induction h with
 |any v=>exact .any v
 |bool b=>exact .bool b
 |int k n=>exact .int k n
 |str s h=>exact .str s h
 |agg cs ds hl' h1 _ ih=>exact .agg cs ds hl' h1 fun i hi=>ih i hi (fF (by simpa[D.dr]using hn) i)
 |tup cs ds hl' _ ih=>exact .tup cs ds hl' fun i hi=>ih i hi (fF (by simpa[D.dr]using hn) i)
 |av=>exact .av
 |sl=>simp[D.dr]at hn
 |ref=>simp[D.dr]at hn
 |ptr=>simp[D.dr]at hn
 |own=>simp[D.dr]at hn
 |own0=>simp[D.dr]at hn
 |nilp=>exact .nilp
 |fn fid n cs ds hν hl' _ ih=>exact .fn fid n cs ds hν hl' fun i hi=>ih i hi (fF (by simpa[D.dr]using hn) i)
 |cM fid n cs ds hν hl' _ ih=>exact .cM fid n cs ds hν hl' fun i hi=>ih i hi (fF (by simpa[D.dr]using hn) i)
 |nilf=>exact .nilf
 |it=>simp[D.dr]at hn
def RD.cells {v:Value}{d:D}(h:RD ν x v d)(hd:0<d.cells.length):
  v.cells.size=d.cells.length∧∀j,j<d.cells.length→(v.cells.getD j undef).oneCell'=true∧RD ν x (v.cells.getD j undef) (d.cells.getD j .any):=by
 cases h with
 |any=>simp[D.cells]at hd
 |tup=>simp[D.cells]at hd
 |agg cs ds hl h1 h=>exact⟨hl,fun j hj=>⟨h1 j hj,h j hj⟩⟩
 |bool b=>exact⟨rfl,fun j hj=>by simp[D.cells]at hj;subst hj;exact⟨rfl,.bool b⟩⟩
 |int k n=>exact⟨rfl,fun j hj=>by simp[D.cells]at hj;subst hj;exact⟨rfl,.int k n⟩⟩
 |str s h=>exact⟨rfl,fun j hj=>by simp[D.cells]at hj;subst hj;exact⟨rfl,.str s h⟩⟩
 |av=>exact⟨rfl,fun j hj=>by simp[D.cells]at hj;subst hj;exact⟨rfl,.av⟩⟩
 |sl a b off len cap k es c hlen ha hcap hm hk hn hc h1 h=>exact⟨rfl,fun j hj=>by simp[D.cells]at hj;subst hj;exact⟨rfl,.sl a b off len cap k es c hlen ha hcap hm hk hn hc h1 h⟩⟩
 |ref b off k i o at_ es c hI hat hk hn hc h1 h=>exact⟨rfl,fun j hj=>by simp[D.cells]at hj;subst hj;exact⟨rfl,.ref b off k i o at_ es c hI hat hk hn hc h1 h⟩⟩
 |ptr l k i o b base tot at_ hβ hat=>exact⟨rfl,fun j hj=>by simp[D.cells]at hj;subst hj;exact⟨rfl,.ptr l k i o b base tot at_ hβ hat⟩⟩
 |own l k i n b base tot cap a hβ ha hcap hm ht=>exact⟨rfl,fun j hj=>by simp[D.cells]at hj;subst hj;exact⟨rfl,.own l k i n b base tot cap a hβ ha hcap hm ht⟩⟩
 |own0 l k i=>exact⟨rfl,fun j hj=>by simp[D.cells]at hj;subst hj;exact⟨rfl,.own0 l k i⟩⟩
 |nilp=>exact⟨rfl,fun j hj=>by simp[D.cells]at hj;subst hj;exact⟨rfl,.nilp⟩⟩
 |fn fid n cs ds hν hl h=>exact⟨rfl,fun j hj=>by simp[D.cells]at hj;subst hj;exact⟨rfl,.fn fid n cs ds hν hl h⟩⟩
 |cM fid n cs ds hν hl h=>exact⟨rfl,fun j hj=>by simp[D.cells]at hj;subst hj;exact⟨rfl,.cM fid n cs ds hν hl h⟩⟩
 |nilf=>exact⟨rfl,fun j hj=>by simp[D.cells]at hj;subst hj;exact⟨rfl,.nilf⟩⟩
 |it l b base tot hβ=>exact⟨rfl,fun j hj=>by simp[D.cells]at hj;subst hj;exact⟨rfl,.it l b base tot hβ⟩⟩
end
end Go.Abs
end
section
namespace Go.Abs
section
variable {ν:List (Nat×Nat)} {x x':X}
class bU where
 /--the type of a builder,and that of its bytes -/
 tB:TypeId:=0
 tU:TypeId:=0
 gd:X→Prop
 le:∀x x':X,(∀b,x.I b→x'.I b)→(∀b,x.I b→x'.w.heap[b]? =x.w.heap[b]?)→gd x→gd x'
variable [bU]
def kt (ν:List (Nat×Nat))(x:X)(b base tot:Nat):aV→Prop
 | .buf k es=>0<k∧es.length≤tot∧∃c T fr,x.w.heap[b]? =some (.cells c T fr)∧base+tot*k≤c.size∧
   (∀o,o<c.size→¬(fr.1≤o∧o<fr.2))∧
   ∀i,i<es.length→(es.getD i .any).cells.length=k∧∀j,j<k→
    (c.getD (base+i*k+j) undef).oneCell'=true∧RD ν x (c.getD (base+i*k+j) undef) ((es.getD i .any).cells.getD j .any)
 | .iter s pos=>x.w.heap[b]? =some (.stringIter ⟨⟨s⟩⟩ pos)∧s.length≤maxLen
 | .row s=>base=0∧∃c,x.w.heap[b]? =some (.cells c bU.tU (0,0))∧c.size=tot∧tot≤maxLen∧s.length≤tot∧∀i,i<s.length→c.getD i undef=.int .u8 (s.getD i 0).toNat
 | .bld o n u=>base=0∧∃v,x.w.heap[b]? =some (.cells #[.pointer (if u=true then some ⟨b,0,none⟩else none),v] bU.tB (0,0))∧
   match o with
   |none=>n=0∧v=.slice none 0 0
   |some l=>∃g t,v=.slice (some ⟨g,0,none⟩) n t∧n≤t∧x.β l=some (g,0,t)
def mW (h:Le x x')(hg:bU.gd x):bU.gd x':=bU.le x x' h.I h.lJ hg
structure dz (ν:List (Nat×Nat))(x:X)(f:Nat→Option aV):Prop where
 own:∀l blk b base tot,f l=some blk→x.β l=some (b,base,tot)→¬x.I b∧kt ν x b base tot blk
 inj:∀l l' b base tot base' tot',f l≠none→f l'≠none→x.β l=some (b,base,tot)→x.β l'=some (b,base',tot')→l=l'
 imm:∀b,x.I b→b<x.w.heap.size
 cM:∀l b base tot,x.β l=some (b,base,tot)→b<x.w.heap.size
 gd:bU.gd x
structure Step (x x':X):Prop where
 os:x'.w.os=x.w.os
 tape:x'.w.tape=x.w.tape
 output:x'.w.output=x.w.output
 size:x.w.heap.size≤x'.w.heap.size
 I:∀b,x.I b→x'.I b
 lJ:∀b,x.I b→x'.w.heap[b]? =x.w.heap[b]?
 β:∀l p,x.β l=some p→x'.β l=some p
 old:∀b,b<x.w.heap.size→(∀l p,x.β l=some p→p.1≠b)→x'.w.heap[b]? =x.w.heap[b]?
 newI:∀b,x'.I b→x.I b∨x.w.heap.size≤b∨∃l p,x.β l=some p∧p.1=b
 newβ:∀l p,x'.β l=some p→x.β l=some p∨x.w.heap.size≤p.1∨∃l' p',x.β l'=some p'∧p'.1=p.1
def Step.le (h:Step x x'):Le x x':=⟨h.I,h.lJ,h.β⟩
def Step.refl (x:X):Step x x:=⟨rfl,rfl,rfl,Nat.le_refl _,fun _ h=>h,fun _ _=>rfl,fun _ _ h=>h,fun _ _ _=>rfl,fun _ h=>.inl h,fun _ _ h=>.inl h⟩
def Step.trans {x'':X}(h:Step x x')(h':Step x' x''):Step x x'':=by
 refine⟨h'.os.trans h.os,h'.tape.trans h.tape,h'.output.trans h.output,Nat.le_trans h.size h'.size,fun b hb=>h'.I b (h.I b hb),
  fun b hb=>(h'.lJ b (h.I b hb)).trans (h.lJ b hb),fun l p hp=>h'.β l p (h.β l p hp), ?_, ?_, ?_⟩
 ·intro b hb hn;refine(h'.old b (Nat.lt_of_lt_of_le hb h.size) ?_).trans (h.old b hb hn);intro l p hp e;rcases h.newβ l p hp with h1|h1|⟨l',p',h1,h2⟩
  ·exact hn l p h1 e
  ·omega
  ·exact hn l' p' h1 (h2.trans e)
 ·intro b hb;rcases h'.newI b hb with h1|h1|⟨l,p,h1,h2⟩
  ·exact h.newI b h1
  ·exact .inr (.inl (Nat.le_trans h.size h1))
  ·rcases h.newβ l p h1 with h3|h3|⟨l',p',h3,h4⟩
   ·exact .inr (.inr ⟨l,p,h3,h2⟩)
   ·exact .inr (.inl (h2▸h3))
   ·exact .inr (.inr ⟨l',p',h3,h4.trans h2⟩)
 ·intro l p hp;rcases h'.newβ l p hp with h1|h1|⟨l',p',h1,h2⟩
  ·exact h.newβ l p h1
  ·exact .inr (.inl (Nat.le_trans h.size h1))
  ·rcases h.newβ l' p' h1 with h3|h3|⟨l'',p'',h3,h4⟩
   ·exact .inr (.inr ⟨l',p',h3,h2⟩)
   ·exact .inr (.inl (h2▸h3))
   ·exact .inr (.inr ⟨l'',p'',h3,h4.trans h2⟩)
def kt.mono {b base tot:Nat}{blk:aV}(h:kt ν x b base tot blk)(hl:Le x x')(hb:x'.w.heap[b]? =x.w.heap[b]?):kt ν x' b base tot blk:=by
 cases blk with
 |buf k es=>
  obtain⟨hk,ht,c,T,fr,h1,h2,h3,h4⟩:=h;exact⟨hk,ht,c,T,fr,hb.trans h1,h2,h3,fun i hi=>⟨(h4 i hi).1,fun j hj=>⟨((h4 i hi).2 j hj).1,((h4 i hi).2 j hj).2.mono hl⟩⟩⟩
 |iter s pos=>exact⟨hb.trans h.1,h.2⟩
 |row s=>
  obtain⟨h0,c,h1,h2⟩:=h;exact⟨h0,c,hb.trans h1,h2⟩
 |bld o n u=>
  obtain⟨h0,v,h1,h2⟩:=h;refine⟨h0,v,hb.trans h1, ?_⟩;cases o with
  |none=>exact h2
  |some l=>
   obtain⟨g,t,h3,h4,h5⟩:=h2;exact⟨g,t,h3,h4,hl.β _ _ h5⟩
structure dZ (w w':World):Prop where
 os:w'.os=w.os
 tape:w'.tape=w.tape
 output:w'.output=w.output
 size:w.heap.size≤w'.heap.size
 old:∀b,b<w.heap.size→w'.heap[b]? =w.heap[b]?
def dZ.refl (w:World):dZ w w:=⟨rfl,rfl,rfl,Nat.le_refl _,fun _ _=>rfl⟩
def iJ (w:World)(o:Obj)(b:Nat)(hb:b<w.heap.size):(w.alloc o).heap[b]? =w.heap[b]? :=by
 simp only[World.alloc,Array.getElem?_push];rw[if_neg (by omega)]
def cF (w:World)(o:Obj):(w.alloc o).heap[w.heap.size]? =some o:=by show(w.heap.push o)[w.heap.size]? =some o;simp
def dZ.alloc (w:World)(o:Obj):dZ w (w.alloc o):=⟨rfl,rfl,rfl,by simp,fun b hb=>iJ w o b hb⟩
def dZ.trans {w w' w'':World}(h:dZ w w')(h':dZ w' w''):dZ w w'':=
 ⟨h'.os.trans h.os,h'.tape.trans h.tape,h'.output.trans h.output,Nat.le_trans h.size h'.size,fun b hb=>(h'.old b (Nat.lt_of_lt_of_le hb h.size)).trans (h.old b hb)⟩
def dZ.drew (w:World):dZ w w.drew:=⟨rfl,rfl,rfl,Nat.le_refl _,fun _ _=>rfl⟩
def Step.grow {w':World}(hw:dZ x.w w')(himm:∀b,x.I b→b<x.w.heap.size):Step x ⟨w',x.I,x.β⟩:=
 ⟨hw.os,hw.tape,hw.output,hw.size,fun _ h=>h,fun b hb=>hw.old b (himm b hb),fun _ _ h=>h,fun b hb _=>hw.old b hb,fun _ h=>.inl h,fun _ _ h=>.inl h⟩
def dz.grow {f:Nat→Option aV}{w':World}(h:dz ν x f)(hw:dZ x.w w'):dz ν ⟨w',x.I,x.β⟩ f:=
 ⟨fun l blk b base tot h1 h2=>⟨(h.own l blk b base tot h1 h2).1,(h.own l blk b base tot h1 h2).2.mono (Step.grow hw h.imm).le (hw.old b (h.cM l b base tot h2))⟩,
  h.inj,fun b hb=>Nat.lt_of_lt_of_le (h.imm b hb) hw.size,fun l b base tot hb=>Nat.lt_of_lt_of_le (h.cM l b base tot hb) hw.size,mW (Step.grow hw h.imm).le h.gd⟩
def cB (β:Nat→Option (Nat×Nat×Nat))(L:Nat)(p:Nat×Nat×Nat):Nat→Option (Nat×Nat×Nat):=fun l=>if l=L then some p else β l
def gW (f:Nat→Option aV)(L:Nat)(b:Option aV):Nat→Option aV:=fun l=>if l=L then b else f l
def uP {w':World}{L n base tot:Nat}(hw:dZ x.w w')(hn:x.w.heap.size≤n)(hL:x.β L=none)(himm:∀b,x.I b→b<x.w.heap.size):
  Step x ⟨w',x.I,cB x.β L (n,base,tot)⟩:=by
 refine⟨hw.os,hw.tape,hw.output,hw.size,fun _ h=>h,fun b hb=>hw.old b (himm b hb),fun l p hp=>?_,fun b hb _=>hw.old b hb,fun _ h=>.inl h,fun l p hp=>?_⟩
 ·have:l≠L:=fun e=>by rw[e,hL]at hp;cases hp
  simp[cB,this,hp]
 ·by_cases e:l=L
  ·simp only[cB,e,if_true,Option.some.injEq]at hp;exact .inr (.inl (hp▸hn))
  ·simp only[cB,e,if_false]at hp;exact .inl hp
def I1 {f:Nat→Option aV}{w':World}{L n base tot:Nat}{blk:aV}(h:dz ν x f)(hw:dZ x.w w')(hn:x.w.heap.size≤n)(hnw:n<w'.heap.size)(hL:x.β L=none)
  (hb:kt ν ⟨w',x.I,cB x.β L (n,base,tot)⟩ n base tot blk):dz ν ⟨w',x.I,cB x.β L (n,base,tot)⟩ (gW f L (some blk)):=by
 have hle:=(uP (base:=base) (tot:=tot) hw hn hL h.imm).le;refine⟨fun l blk' b base' tot' h1 h2=>?_,fun l l' b base' tot' base'' tot'' h1 h1' h2 h2'=>?_,fun b hb=>Nat.lt_of_lt_of_le (h.imm b hb) hw.size,fun l b base' tot' h2=>?_,mW hle h.gd⟩
 ·by_cases e:l=L
  ·subst e;simp only[cB,if_true,Option.some.injEq,Prod.mk.injEq]at h2;simp only[gW,if_true,Option.some.injEq]at h1;obtain⟨rfl,rfl,rfl⟩:=h2;subst h1;exact⟨fun hI=>by have:=h.imm _ hI;omega,hb⟩
  ·simp only[cB,e,if_false]at h2;simp only[gW,e,if_false]at h1;obtain⟨a1,a2⟩:=h.own l blk' b base' tot' h1 h2;exact⟨a1,a2.mono hle (hw.old b (h.cM l b base' tot' h2))⟩
 ·by_cases e:l=L<;>by_cases e':l'=L
  ·exact e.trans e'.symm
  ·simp only[cB,e,if_true,Option.some.injEq,Prod.mk.injEq]at h2;simp only[cB,e',if_false]at h2';have:=h.cM l' b base'' tot'' h2';obtain⟨h2,_,_⟩:=h2;omega
  ·simp only[cB,e',if_true,Option.some.injEq,Prod.mk.injEq]at h2';simp only[cB,e,if_false]at h2;have:=h.cM l b base' tot' h2;obtain⟨h2',_,_⟩:=h2';omega
  ·simp only[cB,e,if_false]at h2;simp only[cB,e',if_false]at h2';simp only[gW,e,if_false]at h1;simp only[gW,e',if_false]at h1';exact h.inj l l' b base' tot' base'' tot'' h1 h1' h2 h2'
 ·by_cases e:l=L
  ·simp only[cB,e,if_true,Option.some.injEq,Prod.mk.injEq]at h2;obtain⟨h2,_,_⟩:=h2;show b<w'.heap.size;omega
  ·simp only[cB,e,if_false]at h2;exact Nat.lt_of_lt_of_le (h.cM l b base' tot' h2) hw.size
variable {P:Program} {w:World}
def kC {t:TypeId}(h:P.cellsOf t≠0):∃i,P.info? t=some i∧i.size=P.cellsOf t:=by
 unfold Program.cellsOf at h⊢;cases hi:P.info? t with
 |none=>simp[hi]at h
 |some i=>exact⟨i,rfl,by simp⟩
def b8 {t:TypeId}(h:P.cellsOf t≠0):(sizeOf t).run P w=.ok (P.cellsOf t) w:=by
 obtain⟨i,hi,hs⟩:=kC h;simp[sizeOf,typeInfo,hi,hs]
def oY {t:TypeId}(h:(P.underlying t).isNone=false):(isAgg t).run P w=.ok (bh P t) w:=by
 cases hu:P.underlying t with
 |none=>simp[hu]at h
 |some d=>unfold isAgg bh;rw[Sem.run_bind,run_underlying hu w];simp only[hu,Result.andThen];cases d<;>rfl
def Addr.sf (b o n:Nat):(⟨b,o,none⟩:Addr).add n=⟨b,o+n,none⟩:=by unfold Addr.add;split<;>simp_all
end
end Go.Abs
end
section
namespace Go.Abs
variable [bU]
section
variable {ν:List (Nat×Nat)} {x:X} {f:Nat→Option aV} {P:Program}
mutual
theorem jy:∀(v:Value)(d:D),dj v=some d→RD ν x v d
 | .bool b,d,h=>by simp[dj]at h;subst h;exact .bool b
 | .int k n,d,h=>by simp[dj]at h;subst h;exact .int k n
 | .string ⟨⟨s⟩⟩,d,h=>by
  simp only[dj]at h;split at h
  ·rename_i hs;simp only[Option.some.injEq]at h;subst h;exact .str s (by simpa[maxLen,ByteArray.size]using hs)
  ·cases h
 | .pointer none,d,h=>by simp[dj]at h;subst h;exact .nilp
 | .slice none 0 0,d,h=>by simp[dj]at h;subst h;exact .av
 | .nilFunc,d,h=>by simp[dj]at h;subst h;exact .nilf
 | .agg ⟨cs⟩,d,h=>by
  simp only[dj]at h;split at h
  ·rename_i hone;cases hc:nF cs with
   |none=>simp[hc]at h
   |some ds=>
    simp[hc]at h;subst h;obtain⟨hl,hr⟩:=od cs ds hc;refine .agg ⟨cs⟩ ds (by simpa using hl) (fun i hi=>?_) (fun i hi=>by simpa using hr i hi);have:=mF cs hone i (by omega);simpa using this
  ·cases h
 | .float _ _,d,h=>by simp[dj]at h
 | .complex _ _ _,d,h=>by simp[dj]at h
 | .pointer (some _),d,h=>by simp[dj]at h
 | .slice (some _) _ _,d,h=>by simp[dj]at h
 | .slice none (_+1) _,d,h=>by simp[dj]at h
 | .slice none 0 (_+1),d,h=>by simp[dj]at h
 | .map _,d,h=>by simp[dj]at h
 | .chan _,d,h=>by simp[dj]at h
 | .func _ _ _,d,h=>by simp[dj]at h
 | .iface _ _,d,h=>by simp[dj]at h
 | .nilIface,d,h=>by simp[dj]at h
 | .tuple _,d,h=>by simp[dj]at h
theorem od:∀(vs:List Value)(ds:List D),nF vs=some ds→vs.length=ds.length∧∀i,i<ds.length→RD ν x (vs.getD i undef) (ds.getD i .any)
 |[],ds,h=>by simp[nF]at h;subst h;simp
 |v::r,ds,h=>by
  simp only[nF]at h;split at h
  ·rename_i d ds' h1 h2;simp only[Option.some.injEq]at h;subst h;have a:=jy v d h1;obtain⟨b1,b2⟩:=od r ds' h2;refine⟨by simp[b1],fun i hi=>?_⟩;cases i with
   |zero=>simpa using a
   |succ i=>simpa using b2 i (by simpa using hi)
  ·cases h
theorem mF:∀(vs:List Value),pC vs=true→∀i,i<vs.length→(vs.getD i undef).oneCell'=true
 |[],_,i,hi=>by simp at hi
 |v::r,h,i,hi=>by
  simp only[pC,Bool.and_eq_true]at h;cases i with
  |zero=>simp;cases v<;>simp_all[Value.oneCell']
  |succ i=>simpa using mF r h.2 i (by simpa using hi)
end
def vb (ν:List (Nat×Nat))(x:X)(f:Nat→Option aV)(L:Nat)(d:D)(r:Result Next):Prop:=
 ∃v x',(r=.ok (.value v) x'.w∨r=.ok .skip x'.w∧v=undef)∧Step x x'∧RD ν x' v d∧dz ν x' f∧∀l,l≠L→x'.β l=x.β l
def aS {L:Nat}{d:D}{v:Value}{r:Result Next}(hs:dz ν x f)(hr:r=.ok (.value v) x.w)(hd:RD ν x v d):vb ν x f L d r:=
 ⟨v,x,.inl hr,.refl x,hd,hs,fun _ _=>rfl⟩
def rA (C:CC)(defs:List (Option Nat))(ρ:Src→aW)(ev:Operand→Value)(x:X)(os:List Operand):Prop:=
 ∀o,o∈os→∀s,C.src defs o=some s→(ρ s).ok=true→RD C.ν x (ev o) (ρ s).d
def RD.fD {v:Value}{b:Bool}(h:RD ν x v (.bool b)):v=.bool b:=by cases h;rfl
def RD.ch {v:Value}{k:IntKind}{n:Int}(h:RD ν x v (.int k n)):v=.int k n:=by cases h;rfl
def RD.fJ {v:Value}{s:List UInt8}(h:RD ν x v (.str s)):v=.string ⟨⟨s⟩⟩∧s.length≤maxLen:=by cases h;exact⟨rfl,‹_›⟩
def RD.pick {b:Bool}{u v:Value}{d e:D}(h1:b=true→RD ν x u d)(h2:b=false→RD ν x v e):RD ν x (if b then u else v) (D.pick b d e):=by
 cases b
 ·have:=h2 rfl;simp only[Bool.false_eq_true,if_false];cases d<;>cases e<;>simp only[D.pick,cond_false]<;>exact this
 ·have:=h1 rfl;simp only[if_true];cases d<;>cases e<;>simp only[D.pick,cond_true]<;>exact this
def zK {op:BinOp}{t:TypeId}{k k':IntKind}{a b:Int}(w:World)(hb:gE op (.int k a) (.int k' b)):
  ∃v,(binOp op t (.int k a) (.int k' b)).run P w=.ok v w∧RD ν x v (il op (.int k a) (.int k' b)):=by
 cases op<;>simp only[gE]at hb<;>simp only[binOp,il,ne_eq]
 case shl=>exact⟨_,by simp[Op.shift,show ¬b<0 by omega],.int _ _⟩
 case shr=>exact⟨_,by simp[Op.shift,show ¬b<0 by omega],.int _ _⟩
 case quo=>obtain⟨rfl,hb⟩:=hb;exact⟨_,by simp[Op.intDiv,hb],.int _ _⟩
 case rem=>obtain⟨rfl,hb⟩:=hb;exact⟨_,by simp[Op.intDiv,hb],.int _ _⟩
 case and=>subst hb;exact⟨_,by simp[Op.intBits],.int _ _⟩
 case or=>subst hb;exact⟨_,by simp[Op.intBits],.int _ _⟩
 case xor=>subst hb;exact⟨_,by simp[Op.intBits],.int _ _⟩
 case andNot=>subst hb;exact⟨_,by simp[Op.intBits],.int _ _⟩
 case add=>subst hb;exact⟨_,by simp[Op.intArith],.int _ _⟩
 case sub=>subst hb;exact⟨_,by simp[Op.intArith],.int _ _⟩
 case mul=>subst hb;exact⟨_,by simp[Op.intArith],.int _ _⟩
 case eql=>subst hb;exact⟨_,by simp[Op.intCmp],.bool _⟩
 case neq=>subst hb;exact⟨_,by simp[Op.intCmp],.bool _⟩
 case lss=>subst hb;exact⟨_,by simp[Op.intCmp],.bool _⟩
 case leq=>subst hb;exact⟨_,by simp[Op.intCmp],.bool _⟩
 case gtr=>subst hb;exact⟨_,by simp[Op.intCmp],.bool _⟩
 case geq=>subst hb;exact⟨_,by simp[Op.intCmp],.bool _⟩
def xm (a b:List UInt8):(⟨⟨a⟩⟩:ByteArray)++⟨⟨b⟩⟩=⟨⟨a++b⟩⟩:=by
 have h:((⟨⟨a⟩⟩:ByteArray)++⟨⟨b⟩⟩).data=(⟨a++b⟩:Array UInt8):=by
  rw[ByteArray.data_append];simp
 exact congrArg ByteArray.mk h
def zL {op:BinOp}{t:TypeId}{a b:List UInt8}(w:World)(hb:gE op (.str a) (.str b)):
  ∃v,(binOp op t (.string ⟨⟨a⟩⟩) (.string ⟨⟨b⟩⟩)).run P w=.ok v w∧RD ν x v (il op (.str a) (.str b)):=by
 have hs:∀l:List UInt8,(⟨⟨l⟩⟩:ByteArray).size=l.length:=fun _=>rfl
 cases op<;>simp only[gE]at hb<;>simp only[binOp,il]
 case add=>
  refine⟨.string ⟨⟨a++b⟩⟩, ?_,.str _ (by simp[maxLen];omega)⟩;have:¬(((⟨⟨a⟩⟩:ByteArray).size+(⟨⟨b⟩⟩:ByteArray).size:Nat):Int)>IntKind.i64.max:=by
   rw[hs,hs];simp only[IntKind.max,IntKind.signed,IntKind.bits,if_true];omega
  simp only[Op.stringOp,this,if_false,Sem.run_pure,xm]
 all_goals
  refine⟨_,by simp only[Op.stringOp,Sem.run_pure];rfl, ?_⟩;simp only[ByteArray.toList_eq];exact .bool _
def mM (op:BinOp)(t:TypeId)(p q:Operand){u v:Value}(h:(∀cs,u≠.agg cs)∧u≠.nilIface)(w:World):(eqGuard op t p q u v).run P w=.ok () w:=by
 obtain⟨h1,h2⟩:=h;unfold eqGuard;cases op<;>simp<;>(split<;>first|rfl|simp_all)
def cO {α:Type}(l:List α)(o n:Nat)(d:α)(j:Nat)(hj:j<n):((l.drop o).take n).getD j d=l.getD (o+j) d:=by
 simp[List.getD,List.getElem?_take,hj,List.getElem?_drop]
def e8 {α:Type}(l:List α)(o n:Nat)(h:o+n≤l.length):((l.drop o).take n).length=n:=by
 simp;omega
def aZ (cs:Array Value)(i:Nat)(d:Value):cs.toList.getD i d=cs.getD i d:=by
 simp[List.getD,Array.getD];split<;>simp_all
def lj {t:TypeId}{cs:Array Value}{ds:List D}{off n:Nat}{ag:Bool}(w:World)(hv:RD ν x (.agg cs) (.agg ds))(ht:P.cellsOf t≠0)(hu:(P.underlying t).isNone=false)
  (hn:n=P.cellsOf t) (hag:ag=bh P t) (hle:off+n≤ds.length) (h1:ag=false→n=1):
  ∃v,(part t cs off).run P w=.ok v w∧RD ν x v (cut ds off n ag):=by
 cases hv with
 |agg _ _ hl hone h=>
  unfold part;rw[Sem.run_bind,oY hu];subst hag;cases hb:bh P t
  ·have hn1:=h1 (by rw[hb]);have hlt:off<cs.size:=by omega
   refine⟨cs.getD off undef, ?_, ?_⟩
   ·simp[Result.andThen,Array.getElem?_eq_getElem hlt,Array.getD,hlt]
   ·simp only[cut,cond_false];exact h off (by omega)
  ·refine⟨.agg (cs.extract off (off+n)), ?_, ?_⟩
   ·simp[Result.andThen,b8 ht,hn]
   ·simp only[cut,cond_true];refine .agg _ _ ?_ ?_ ?_
    ·simp;omega
    ·intro i hi;simp at hi;have:=hone (off+i) (by omega);rw[←this];congr 1;simp[Array.getD,show off+i<cs.size by omega,show i<min (off+n) cs.size-off by omega]
    ·intro i hi;simp at hi;rw[cO _ _ _ _ _ (by omega)];have:=h (off+i) (by omega);have e:(cs.extract off (off+n)).getD i undef=cs.getD (off+i) undef:=by
      simp[Array.getD,show off+i<cs.size by omega,show i<min (off+n) cs.size-off by omega]
     rw[e];exact this
end
end Go.Abs
end
section
namespace Go.Abs
variable [bU]
section
variable {x:X} {f:Nat→Option aV} {C:CC} {defs:List (Option Nat)} {ρ:Src→aW} {ev:Operand→Value} {Γ:Ctx} {m:List (Nat×aV)} {L:Nat}
def ek {os':List Operand}(hρ:rA C defs ρ ev x os'):∀(os:List Operand)(ss:List Src),(∀o∈os,o∈os')→C.ph defs os=some ss→uu ρ ss→
  os.length=ss.length∧(fm ρ ss).length=os.length∧∀i,i<(fm ρ ss).length→RD C.ν x ((os.map ev).getD i undef) ((fm ρ ss).getD i .any)
 |[],ss,_,h,_=>by simp[CC.ph]at h;subst h;simp[fm]
 |o::r,ss,hm,h,hk=>by
  simp only[CC.ph]at h;split at h
  ·rename_i a l h1 h2;simp only[Option.some.injEq]at h;subst h;simp only[uu]at hk;obtain⟨b1,b2,b3⟩:=ek hρ r l (fun o ho=>hm o (.tail _ ho)) h2 hk.2;refine⟨by simp[b1],by simp[fm,b2],fun i hi=>?_⟩;cases i with
   |zero=>simpa[fm]using hρ o (hm o (.head _)) a h1 hk.1
   |succ i=>simpa[fm]using b3 i (by simpa[fm]using hi)
  ·cases h
def tN (off:Nat):∀(new:List Value)(st:Nat)(acc:Array Value),off+st+new.length≤acc.size→
  ((new.zipIdx st).foldl (fun cs (c,j)=>cs.setIfInBounds (off+j) c) acc).size=acc.size∧
  ∀q,((new.zipIdx st).foldl (fun cs (c,j)=>cs.setIfInBounds (off+j) c) acc)[q]? =if off+st≤q∧q<off+st+new.length then new[q-(off+st)]? else acc[q]?
 |[],st,acc,_=>⟨by simp,fun q=>by simp;omega⟩
 |c::r,st,acc,hb=>by
  simp only[List.length_cons]at hb;obtain⟨h1,h2⟩:=tN off r (st+1) (acc.setIfInBounds (off+st) c) (by simp;omega);refine⟨by simpa[List.zipIdx_cons]using h1,fun q=>?_⟩;rw[List.zipIdx_cons,List.foldl_cons,h2 q];simp only[List.length_cons];by_cases q1:off+(st+1)≤q∧q<off+(st+1)+r.length
  ·rw[if_pos q1,if_pos (by omega),show q-(off+st)=(q-(off+(st+1)))+1 by omega];simp
  ·rw[if_neg q1,Array.getElem?_setIfInBounds];by_cases q2:off+st=q
   ·subst q2;rw[if_pos rfl,if_pos (by omega)];simp
   ·rw[if_neg q2,if_neg (by omega)]
def m8 {os':List Operand}(hρ:rA C defs ρ ev x os')(place:Nat→Option (Nat×Nat))(len:Nat):∀(ps:List (Nat×Operand))(ss:List (Nat×Nat×Src)),
  (∀p∈ps,p.2∈os')→C.parts defs place ps=some ss→vV ρ len ss→∀(cs:Array Value) (ds:List D),cs.size=len→RD C.ν x (.agg cs) (.agg ds)→
  ∃cs',Instr.fill place cs (ps.map fun(i,o)=>(i,ev o))=some cs'∧RD C.ν x (.agg cs') (.agg (tI ρ ds ss))
 |[],ss,_,h,_,cs,ds,_,hr=>by simp[CC.parts]at h;subst h;exact⟨cs,by simp[Instr.fill],by simpa[tI]using hr⟩
 |(i,o)::r,ss,hm,h,hk,cs,ds,hlen,hr=>by
  simp only[CC.parts]at h;split at h
  ·rename_i off n s l h1 h2 h3;split at h
   ·cases h
   rename_i hn0;simp only[Option.some.injEq]at h;subst h;simp only[vV]at hk;obtain⟨k1,k2,k3,k4⟩:=hk;have hn:0<n:=by omega
   have hv:=hρ o (hm _ (.head _)) s h2 k1;obtain⟨c1,c2⟩:=hv.cells (by omega);have hsz:(ev o).cells.size=n:=by omega
   cases hr with
   |agg _ _ hl hone hh=>
   let cs1:Array Value:=((ev o).cells.toList.zipIdx 0).foldl (fun cs (c,j)=>cs.setIfInBounds (off+j) c) cs
   have harr:(ev o).cells.zipIdx.foldl (fun cs (c,j)=>cs.setIfInBounds (off+j) c) cs=cs1:=by
    rw[←Array.foldl_toList];simp[cs1]
   have hcs1:=harr;obtain⟨hsz1,hgq⟩:=tN off (ev o).cells.toList 0 cs (by simp;omega);have hget:∀q,q<cs.size→cs1.getD q undef=if q<off then cs.getD q undef else if q<off+n then(ev o).cells.getD (q-off) undef else cs.getD q undef:=by
    intro q hq;have:=hgq q;rw[←aZ,←aZ cs,←aZ (ev o).cells];simp only[List.getD,Array.getElem?_toList];rw[show cs1[q]? =_ from this];simp only[Array.length_toList,hsz,Nat.add_zero];by_cases q1:q<off
    ·rw[if_pos q1,if_neg (by omega)]
    ·rw[if_neg q1];by_cases q2:q<off+n
     ·rw[if_pos q2,if_pos (by omega)];simp
     ·rw[if_neg q2,if_neg (by omega)]
   have hsz1:cs1.size=cs.size:=hsz1;have hdlen:(over ds off (ρ s).d.cells).length=ds.length:=by simp[over];omega
   have hdget:∀q,q<ds.length→(over ds off (ρ s).d.cells).getD q .any=if q<off then ds.getD q .any else if q<off+n then(ρ s).d.cells.getD (q-off) .any else ds.getD q .any:=by
    intro q hq;simp only[over,List.getD,List.getElem?_append,List.length_take];by_cases q1:q<off
    ·rw[if_pos (by omega),if_pos q1];simp[List.getElem?_take,q1]
    ·rw[if_neg (by omega),if_neg q1,show q-min off ds.length=q-off by omega];by_cases q2:q<off+n
     ·rw[if_pos q2,if_pos (by omega)]
     ·rw[if_neg q2,if_neg (by omega)];simp only[List.getElem?_drop];congr 3;omega
   have hr1:RD C.ν x (.agg cs1) (.agg (over ds off (ρ s).d.cells)):=by
    refine .agg _ _ (by omega) (fun q hq=>?_) (fun q hq=>?_)
    ·rw[hdlen]at hq;rw[hget q (by omega)];split
     ·exact hone q hq
     ·split
      ·exact(c2 (q-off) (by omega)).1
      ·exact hone q hq
    ·rw[hdlen]at hq;rw[hget q (by omega),hdget q hq];split
     ·exact hh q hq
     ·split
      ·exact(c2 (q-off) (by omega)).2
      ·exact hh q hq
   obtain⟨cs',g1,g2⟩:=m8 hρ place len r l (fun p hp=>hm p (.tail _ hp)) h3 k4 cs1 _ (by omega) hr1;refine⟨cs', ?_,by simpa[tI]using g2⟩;simp only[List.map_cons,Instr.fill,h1];rw[if_neg (by simp[hsz];omega),hcs1];exact g1
  ·cases h
end
section
variable {ν:List (Nat×Nat)} {x:X} {P:Program}
def eZ:∀(ks:List CK)(ds:List D),et ks ds→ds.length=ks.length
 |[],[],_=>rfl
 |[],_::_,h=>by simp[et]at h
 |_::_,[],h=>by simp[et]at h
 |c::r,d::ds,h=>by have:=eZ r ds (by simp[et]at h;exact h.2);simp;omega
def gG:∀(a b:List CK)(ds:List D),et (a++b) ds→et a (ds.take a.length)∧et b (ds.drop a.length)
 |[],b,ds,h=>by simpa[et]using h
 |c::r,b,[],h=>by simp[et]at h
 |c::r,b,d::ds,h=>by
  simp only[List.cons_append,et]at h;obtain⟨h1,h2⟩:=gG r b ds h.2;exact⟨by simp[et,h.1,h1],by simpa using h2⟩
def oI:∀(n:Nat)(ds es:List D),ds.length=es.length→fE ds es=(fE (ds.take n) (es.take n)&&fE (ds.drop n) (es.drop n))
 |0,ds,es,_=>by simp[fE]
 |n+1,[],[],_=>by simp[fE]
 |n+1,[],_::_,h=>by simp at h
 |n+1,_::_,[],h=>by simp at h
 |n+1,d::ds,e::es,h=>by
  simp only[fE,List.take_succ_cons,List.drop_succ_cons];rw[oI n ds es (by simpa using h),Bool.and_assoc]
def yS {c:CK}{d:D}(h:c.fits d):d.cells=[d]∧d.isAgg=false:=by
 cases c<;>cases d<;>simp_all[CK.fits,D.cells,D.isAgg]
def iQ {c:CK}{d:D}(h:et [c] d.cells)(ha:d.isAgg=false):c.fits d:=by
 cases d<;>simp_all[D.cells,D.isAgg,et]
def nG {ds:List D}{off n:Nat}{ag:Bool}{ks:List CK}(h:et ks ((ds.drop off).take n))(hn:ag=false→n=1)(hle:off+n≤ds.length):
  (cut ds off n ag).cells=(ds.drop off).take n∧(cut ds off n ag).isAgg=ag:=by
 cases ag
 ·have:=hn rfl;subst this;have hlt:off<ds.length:=by omega
  have e:(ds.drop off).take 1=[ds.getD off .any]:=by
   rw[List.drop_eq_getElem_cons hlt];simp[List.getD,hlt,List.take]
  rw[e]at h⊢;cases ks with
  |nil=>simp[et]at h
  |cons c r=>
   simp only[et]at h;exact yS h.1
 ·exact⟨rfl,rfl⟩
def Ao (ν:List (Nat×Nat))(x:X)(P:Program)(n:Nat)(t:TypeId)(ks:List CK):Prop:=
 ∀u v d e (w:World),RD ν x u d→RD ν x v e→d.isAgg=bh P t→e.isAgg=bh P t→et ks d.cells→et ks e.cells→
  (Op.equalIn n t u v).run P w=.ok (fE d.cells e.cells) w
def ub {n:Nat}{t:TypeId}{ks:List CK}(h:dR P n t=some ks)(ha:bh P t=false):ks.length=1:=by
 cases n with
 |zero=>simp[dR]at h
 |succ n=>
  simp only[dR]at h;unfold bh at ha;cases hu:P.underlying t with
  |none=>simp[hu]at h
  |some d=>cases d<;>simp_all<;>subst h<;>rfl
def pL (n depth:Nat)(ih:∀t ks,dR P depth t=some ks→Ao ν x P n t ks)(xs ys:Array Value)(ds es:List D)(h1:RD ν x (.agg xs) (.agg ds))(h2:RD ν x (.agg ys) (.agg es))(w:World):
  ∀(fs:List Field) (off:Nat) (ks:List CK),iT P (fun t=>dR P depth t) off fs=some ks→off≤ds.length→off≤es.length→et ks (ds.drop off)→et ks (es.drop off)→
  (Op.eqFields n xs ys fs).run P w=.ok (fE (ds.drop off) (es.drop off)) w
 |[],off,ks,hk,_,_,f1,f2=>by
  simp[iT]at hk;subst hk;have a:=eZ _ _ f1;have b:=eZ _ _ f2;have a':ds.drop off=[]:=List.eq_nil_of_length_eq_zero a;have b':es.drop off=[]:=List.eq_nil_of_length_eq_zero b;rw[a',b'];simp[Op.eqFields,fE]
 |f::fs,off,ks,hk,l1,l2,f1,f2=>by
  simp only[iT]at hk;split at hk
  ·cases hk
  ·rename_i hne;have hname:f.name≠ "_" :=fun e=>hne (.inl e)
   have hoff:f.offset=off:=by
    rcases Nat.decEq f.offset off with h|h
    ·exact absurd (.inr h) hne
    ·exact h
   split at hk
   ·rename_i a b ha hb;split at hk
    ·rename_i hlen;obtain⟨hlen,hnz,hund⟩:=hlen;simp only[Option.some.injEq]at hk;subst hk;obtain⟨fa1,fb1⟩:=gG a b _ f1;obtain⟨fa2,fb2⟩:=gG a b _ f2;have la:=eZ _ _ f1;have lb:=eZ _ _ f2;simp only[List.length_drop,List.length_append]at la lb;have hag:bh P f.type=false→P.cellsOf f.type=1:=fun e=>by rw[←hlen];exact ub ha e
     obtain⟨u,r1,r2⟩:=lj (P:=P) (off:=off) (n:=P.cellsOf f.type) (ag:=bh P f.type) w h1 (by omega) hund rfl rfl (by omega) hag;obtain⟨v,s1,s2⟩:=lj (P:=P) (off:=off) (n:=P.cellsOf f.type) (ag:=bh P f.type) w h2 (by omega) hund rfl rfl (by omega) hag;rw[hlen]at fa1 fa2 fb1 fb2;obtain⟨c1,c2⟩:=nG (ag:=bh P f.type) fa1 hag (by omega);obtain⟨d1,d2⟩:=nG (ag:=bh P f.type) fa2 hag (by omega);have he:=ih f.type a ha u v _ _ w r2 s2 c2 d2 (by rw[c1];exact fa1) (by rw[d1];exact fa2);rw[List.drop_drop]at fb1 fb2;have hrest:=pL n depth ih xs ys ds es h1 h2 w fs (off+P.cellsOf f.type) b hb (by omega) (by omega) fb1 fb2;rw[oI (P.cellsOf f.type) (ds.drop off) (es.drop off) (by simp;omega)];simp only[Op.eqFields,hname,ne_eq,not_false_eq_true,if_true,Sem.run_bind,hoff,r1,s1,he,Result.andThen_ok,Sem.run_ite,hrest];rw[c1,d1,List.drop_drop,List.drop_drop];cases fE ((ds.drop off).take (P.cellsOf f.type)) ((es.drop off).take (P.cellsOf f.type))<;>simp
    ·cases hk
   ·cases hk
def rJ (n:Nat)(e:TypeId)(l:List CK)(ih:Ao ν x P n e l)(hc:l.length=P.cellsOf e)(hnz:l.length≠0)(hund:(P.underlying e).isNone=false)(hag:bh P e=false→P.cellsOf e=1)
  (xs ys:Array Value) (ds es:List D) (h1:RD ν x (.agg xs) (.agg ds)) (h2:RD ν x (.agg ys) (.agg es)) (w:World):
  ∀(len j:Nat),j*P.cellsOf e≤ds.length→j*P.cellsOf e≤es.length→et (List.replicate len l).flatten (ds.drop (j*P.cellsOf e))→et (List.replicate len l).flatten (es.drop (j*P.cellsOf e))→
  (Op.eqItems n e (P.cellsOf e) xs ys (List.range' j len)).run P w=.ok (fE (ds.drop (j*P.cellsOf e)) (es.drop (j*P.cellsOf e))) w
 |0,j,_,_,f1,f2=>by
  have a:=eZ _ _ f1;have b:=eZ _ _ f2;have a':ds.drop (j*P.cellsOf e)=[]:=List.eq_nil_of_length_eq_zero (by simpa using a);have b':es.drop (j*P.cellsOf e)=[]:=List.eq_nil_of_length_eq_zero (by simpa using b);rw[a',b'];simp[Op.eqItems,fE]
 |len+1,j,l1,l2,f1,f2=>by
  simp only[List.replicate_succ,List.flatten_cons]at f1 f2;obtain⟨fa1,fb1⟩:=gG _ _ _ f1;obtain⟨fa2,fb2⟩:=gG _ _ _ f2;have la:=eZ _ _ f1;have lb:=eZ _ _ f2;simp only[List.length_drop,List.length_append]at la lb;have hj:(j+1)*P.cellsOf e=j*P.cellsOf e+P.cellsOf e:=Nat.succ_mul _ _;obtain⟨u,r1,r2⟩:=lj (P:=P) (off:=j*P.cellsOf e) (n:=P.cellsOf e) (ag:=bh P e) w h1 (by omega) hund rfl rfl (by omega) hag;obtain⟨v,s1,s2⟩:=lj (P:=P) (off:=j*P.cellsOf e) (n:=P.cellsOf e) (ag:=bh P e) w h2 (by omega) hund rfl rfl (by omega) hag;rw[hc]at fa1 fa2 fb1 fb2;obtain⟨c1,c2⟩:=nG (ag:=bh P e) fa1 hag (by omega);obtain⟨d1,d2⟩:=nG (ag:=bh P e) fa2 hag (by omega);have he:=ih u v _ _ w r2 s2 c2 d2 (by rw[c1];exact fa1) (by rw[d1];exact fa2);rw[List.drop_drop,←hj]at fb1 fb2;have hrest:=rJ n e l ih hc hnz hund hag xs ys ds es h1 h2 w len (j+1) (by omega) (by omega) fb1 fb2;rw[oI (P.cellsOf e) (ds.drop (j*P.cellsOf e)) (es.drop (j*P.cellsOf e)) (by simp;omega)];simp only[List.range'_succ,Op.eqItems,Sem.run_bind,r1,s1,he,Result.andThen_ok,Sem.run_ite,hrest];rw[c1,d1,List.drop_drop,List.drop_drop,←hj];cases fE ((ds.drop (j*P.cellsOf e)).take (P.cellsOf e)) ((es.drop (j*P.cellsOf e)).take (P.cellsOf e))<;>simp
def mN:∀(depth:Nat)(t:TypeId)(ks:List CK),dR P depth t=some ks→∀n,depth≤n→Ao ν x P n t ks
 |0,t,ks,h,_,_=>by simp[dR]at h
 |depth+1,t,ks,h,n,hn=>by
  obtain⟨n,rfl⟩:∃k,n=k+1:=⟨n-1,by omega⟩
  intro u v d e w r1 r2 a1 a2 f1 f2;simp only[dR]at h;split at h
  ·rename_i hu;simp only[Option.some.injEq]at h;subst h;have hag:bh P t=false:=by simp[bh,hu]
   rw[hag]at a1 a2;have g1:=iQ f1 a1;have g2:=iQ f2 a2;cases d<;>simp only[CK.fits]at g1;cases e<;>simp only[CK.fits]at g2;rw[r1.fD,r2.fD,run_equalIn_bool w n t _ _ hu];simp[D.cells,fE,KA]
  ·rename_i k hu;simp only[Option.some.injEq]at h;subst h;have hag:bh P t=false:=by simp[bh,hu]
   rw[hag]at a1 a2;have g1:=iQ f1 a1;have g2:=iQ f2 a2;cases d<;>simp only[CK.fits]at g1;cases e<;>simp only[CK.fits]at g2;subst g1;subst g2;rw[r1.ch,r2.ch,run_equalIn_int w n t _ _ _ _ hu];simp[D.cells,fE,KA]
  ·rename_i hu;simp only[Option.some.injEq]at h;subst h;have hag:bh P t=false:=by simp[bh,hu]
   rw[hag]at a1 a2;have g1:=iQ f1 a1;have g2:=iQ f2 a2;cases d<;>simp only[CK.fits]at g1;cases e<;>simp only[CK.fits]at g2;rw[r1.fJ.1,r2.fJ.1,run_equalIn_string w n t _ _ hu];simp[D.cells,fE,KA,ByteArray.toList_eq]
  ·rename_i fs hu;split at h
   ·cases h
   ·rename_i hst;have hag:bh P t=true:=by simp[bh,hu]
    rw[hag]at a1 a2;cases d<;>simp only[D.isAgg,Bool.false_eq_true]at a1;cases e<;>simp only[D.isAgg,Bool.false_eq_true]at a2;have hf:P.fieldsOf t=fs:=by simp[Program.fieldsOf,hu]
    cases r1 with
    |agg xs _ p1 p2 p3=>
     cases r2 with
     |agg ys _ q1 q2 q3=>
      rw[run_equalIn_struct w n t xs ys (by rw[hf];exact hu) (by simpa using hst),hf];have:=pL (ν:=ν) (x:=x) n depth (fun t ks hk=>mN depth t ks hk n (by omega)) xs ys _ _ (.agg xs _ p1 p2 p3) (.agg ys _ q1 q2 q3) w fs.toList 0 ks h (by simp) (by simp) (by simpa[D.cells]using f1) (by simpa[D.cells]using f2);simpa[D.cells]using this
  ·rename_i len e' hu;split at h
   ·rename_i l hl;split at h
    ·rename_i hc;obtain⟨hc,hnz,hund⟩:=hc;simp only[Option.some.injEq]at h;subst h;have hag:bh P t=true:=by simp[bh,hu]
     rw[hag]at a1 a2;cases d<;>simp only[D.isAgg,Bool.false_eq_true]at a1;cases e<;>simp only[D.isAgg,Bool.false_eq_true]at a2;obtain⟨i,hi,_⟩:=kC (P:=P) (t:=e') (by omega);cases r1 with
     |agg xs _ p1 p2 p3=>
      cases r2 with
      |agg ys _ q1 q2 q3=>
       rw[run_equalIn_array w n xs ys hu hi,List.range_eq_range'];have:=rJ (ν:=ν) (x:=x) n e' l (mN depth e' l hl n (by omega)) hc hnz hund (fun e=>by rw[←hc];exact ub hl e) xs ys _ _ (.agg xs _ p1 p2 p3) (.agg ys _ q1 q2 q3) w len 0 (by simp) (by simp) (by simpa[D.cells]using f1) (by simpa[D.cells]using f2);simpa[D.cells]using this
    ·cases h
   ·cases h
  ·cases h
end
end Go.Abs
end
section
namespace Go.Abs
variable [bU]
section
variable {x:X} {f:Nat→Option aV} {C:CC} {defs:List (Option Nat)} {ρ:Src→aW} {ev:Operand→Value} {Γ:Ctx} {m:List (Nat×aV)} {L:Nat}
def xd {t:TypeId}{z:List D}(h:ou C.P t=some (.agg z)):∃i cs,C.P.info? t=some i∧i.zero=some (.agg cs)∧RD C.ν x (.agg cs) (.agg z):=by
 unfold ou at h;cases hi:C.P.info? t with
 |none=>simp[hi]at h
 |some i=>
  cases hz:i.zero with
  |none=>simp[hi,hz]at h
  |some v=>
   simp only[hi,hz,Option.bind_some]at h;have hr:RD C.ν x v (.agg z):=jy v _ h;cases v with
   |agg cs=>exact⟨i,cs,rfl,hz,hr⟩
   |_=>cases hr
def nY {t:TypeId}{z:D}(h:ou C.P t=some z):∃i v,C.P.info? t=some i∧i.zero=some v∧RD C.ν x v z:=by
 unfold ou at h;cases hi:C.P.info? t with
 |none=>simp[hi]at h
 |some i=>
  cases hz:i.zero with
  |none=>simp[hi,hz]at h
  |some v=>
   simp only[hi,hz,Option.bind_some]at h;exact⟨i,v,rfl,hz,jy v _ h⟩
def r0 {P:Program}(w:World):∀(fs:List Field),(∀f∈fs,(P.info? f.type).isSome=true)→
  (fs.mapM (fun f=>(do pure (f.offset,←sizeOf f.type):Sem (Nat×Nat)))).run P w=.ok (fs.map fun f=>(f.offset,P.cellsOf f.type)) w
 |[],_=>by simp
 |f::r,h=>by
  have hf:=h f (by simp);cases hi:P.info? f.type with
  |none=>simp[hi]at hf
  |some i=>
   have hr:=r0 w r (fun g hg=>h g (by simp[hg]));simp only[List.mapM_cons,Sem.run_bind,run_sizeOf w hi,Result.andThen_ok,Sem.run_pure,hr];simp
def Ay {op:BinOp}{d e:D}(h:gE op d e):(∃k a k' b,d=.int k a∧e=.int k' b)∨(∃a b,d=.str a∧e=.str b):=by
 cases d<;>cases e<;>first|exact .inl ⟨_,_,_,_,rfl,rfl⟩|exact .inr ⟨_,_,rfl,rfl⟩|(simp only[gE]at h)
def pM {op:BinOp}{t u:TypeId}{p q:Operand}{o:Oper}{v:Value}{w:World}{P:Program}(ho:o.op=.binOp op t p q u)(hg:(eqGuard op t p q (ev p) (ev q)).run P w=.ok () w)
  (hr:(binOp op t (ev p) (ev q)).run P w=.ok v w):(execOp ev o).run P w=.ok (.value v) w:=by
 simp[execOp,ho,hg,hr]
def xk (op:BinOp)(hop:op=.eql∨op=.neq)(t:TypeId)(xs ys:Array Value)(b:Bool)(w:World)(P:Program)(h:(Op.equalIn 10000 t (.agg xs) (.agg ys)).run P w=.ok b w):
  (binOp op t (.agg xs) (.agg ys)).run P w=.ok (.bool (if op=.neq then !b else b)) w:=by
 rcases hop with rfl|rfl
 ·rw[run_eql_struct,h];rfl
 ·rw[run_neq_struct,h];rfl
def LB {a:Option Addr}{len cap k:Nat}{es:List D}{l h:Nat}(hv:RD C.ν x (.slice a len cap) (.sl k es))(h1:l≤h)(h2:h≤es.length):
  RD C.ν x (.slice (if cap=l then a else a.map (·.add (l*k))) (h-l) (cap-l)) (.sl k ((es.take h).drop l)):=by
 cases hv with
 |sl _ b off _ _ _ _ c hlen ha hcap hm hk hn hc hone hh=>
  have hl':((es.take h).drop l).length=h-l:=by simp;omega
  have hg:∀i,i<h-l→((es.take h).drop l).getD i .any=es.getD (l+i) .any:=by
   intro i hi;simp[List.getD,List.getElem?_drop,List.getElem?_take,show l+i<h by omega]
  refine .sl _ b (off+l*k) (h-l) (cap-l) k _ (fun i j=>c (l+i) j) hl'.symm ?_ (by omega) (by omega) (fun i hi=>?_) (fun i hi=>?_) (fun i j hi hj=>?_) (fun i j hi hj=>hone _ _ (by omega) hj) (fun i j hi hj=>?_)
  ·by_cases he:h-l=0
   ·left;exact List.eq_nil_of_length_eq_zero (by omega)
   ·right;rw[if_neg (by omega)];rcases ha with rfl|⟨rfl,hI⟩
    ·simp at h2;omega
    ·exact⟨by simp[Addr.sf],hI⟩
  ·rw[hg i hi];exact hk _ (by omega)
  ·rw[hg i hi];exact hn _ (by omega)
  ·have:=hc (l+i) j (by omega) hj;rw[←this];congr 2;rw[Nat.add_mul];omega
  ·rw[hg i hi];exact hh _ _ (by omega) hj
def Lz {a:Option Addr}{len cap k:Nat}{es:List D}{h m:Nat}(hv:RD C.ν x (.slice a len cap) (.sl k es))(h1:h≤m)(h2:m≤es.length):
  RD C.ν x (.slice (if m=0 then a else a.map (·.add (0*k))) h m) (.sl k (es.take h)):=by
 cases hv with
 |sl _ b off _ _ _ _ c hlen ha hcap hm hk hn hc hone hh=>
  have hl':(es.take h).length=h:=by simp;omega
  have hg:∀i,i<h→(es.take h).getD i .any=es.getD i .any:=by
   intro i hi;simp[List.getD,List.getElem?_take,hi]
  refine .sl _ b off h m k _ (fun i j=>c i j) hl'.symm ?_ h1 (by omega) (fun i hi=>?_) (fun i hi=>?_) (fun i j hi hj=>hc i j (by omega) hj) (fun i j hi hj=>hone _ _ (by omega) hj) (fun i j hi hj=>?_)
  ·by_cases he:h=0
   ·left;exact List.eq_nil_of_length_eq_zero (by omega)
   ·right;rw[if_neg (by omega)];rcases ha with rfl|⟨rfl,hI⟩
    ·simp at h2;omega
    ·exact⟨by simp[Addr.add],hI⟩
  ·rw[hg i hi];exact hk _ (by omega)
  ·rw[hg i hi];exact hn _ (by omega)
  ·rw[hg i hi];exact hh _ _ (by omega) hj
def IB {v:Value}{L' k i n:Nat}(hv:RD C.ν x v (.own L' k i n)):
  ∃a cap,v=.slice a n cap∧n≤cap∧∀h m,h≤m→m≤n→RD C.ν x (.slice (if m=0 then a else a.map (·.add (0*k))) h m) (.own L' k i h):=by
 cases hv with
 |own _ _ _ _ b base tot cap a hβ ha hcap hm ht=>
  refine⟨some a,cap,rfl,hcap,fun h m h1 h2=>?_⟩;have e:(if m=0 then some a else(some a).map (·.add (0*k)))=some a:=by simp[Addr.add]
  rw[e];exact .own L' k i h b base tot m a hβ (fun hp=>ha (by omega)) h1 (by omega) (by omega)
 |own0=>
  refine⟨none,0,rfl,Nat.le_refl _,fun h m h1 h2=>?_⟩;obtain rfl:m=0:=by omega
  obtain rfl:h=0:=by omega
  exact .own0 _ _ _
def oH {vh vm:Value}{kh km:IntKind}{h m:Int}{len cap:Nat}(e1:vh=.int kh h)(e2:vm=.int km m)(h0:0≤h)(h1:h≤m)(h2:m≤cap):
  (Instr.sliceBounds true len cap none (some vh) (some vm)).run C.P x.w=.ok (0,h.toNat,m.toNat) x.w:=by
 subst e1;subst e2;simp[Instr.sliceBounds,run_sliceBound x.w km m cap .slice3Acap (by omega) h2,run_sliceBound x.w kh h m.toNat .slice3B h0 (by omega)]
def IC {v:Value}{L' k i n:Nat}(hv:RD C.ν x v (.own L' k i n)):
  ∃a cap,v=.slice a n cap∧n≤cap∧∀l h,l≤h→h≤n→RD C.ν x (.slice (if cap=l then a else a.map (·.add (l*k))) (h-l) (cap-l)) (.own L' k (i+l) (h-l)):=by
 cases hv with
 |own _ _ _ _ b base tot cap a hβ ha hcap hm ht=>
  refine⟨some a,cap,rfl,hcap,fun l h h1 h2=>?_⟩;have e:(if cap=l then some a else(some a).map (·.add (l*k)))=some (if cap=l then a else a.add (l*k)):=by split<;>rfl
  rw[e];refine .own L' k (i+l) (h-l) b base tot (cap-l) _ hβ (fun hp=>?_) (by omega) (by omega) (by omega);rw[if_neg (by omega),ha (by omega),Addr.sf];congr 1;rw[Nat.add_mul];omega
 |own0=>
  refine⟨none,0,rfl,Nat.le_refl _,fun l h h1 h2=>?_⟩;obtain rfl:h=0:=by omega
  obtain rfl:l=0:=by omega
  exact .own0 _ _ _
def vA (s:List UInt8)(l h:Nat):(⟨⟨s⟩⟩:ByteArray).extract l h=⟨⟨(s.take h).drop l⟩⟩:=by
 rw[Lib.extract_eq,List.drop_take]
def ux {lo:Option Operand}(h:C.opt defs lo=some none):lo=none:=by
 cases lo with
 |none=>rfl
 |some o=>simp[CC.opt]at h
def uy {lo:Option Operand}{s:Src}(h:C.opt defs lo=some (some s)):∃o,lo=some o∧C.src defs o=some s:=by
 cases lo with
 |none=>simp[CC.opt]at h
 |some o=>simp only[CC.opt,Option.map_eq_some_iff,Option.some.injEq]at h;obtain⟨a,h1,rfl⟩:=h;exact⟨o,rfl,h1⟩
def lC {os':List Operand}(hρ:rA C defs ρ ev x os'){lo hi:Option Operand}(hml:∀o,lo=some o→o∈os')(hmh:∀o,hi=some o→o∈os'){l h:Option Src}(hl:C.opt defs lo=some l)(hh:C.opt defs hi=some h)(k1:Eo ρ l)(k2:Eo ρ h)(Fq:Bool)(len cap:Nat)
  (hcap:Fq=false→len=cap) (hle:len≤cap) (b2:lB (dO ρ h) len) (b1:lB (dO ρ l) (cM (dO ρ h) len)):
  (Instr.sliceBounds Fq len cap (lo.map ev) (hi.map ev) none).run C.P x.w=.ok (cM (dO ρ l) 0,cM (dO ρ h) len,cap) x.w∧cM (dO ρ l) 0≤cM (dO ρ h) len∧cM (dO ρ h) len≤len:=by
 have hh':∃code,(match hi.map ev with|some v=>Instr.sliceBound v cap code|none=>pure len:Sem Nat).run C.P x.w=.ok (cM (dO ρ h) len) x.w∧cM (dO ρ h) len≤len∧code=(if Fq then BoundsCode.sliceAcap else .sliceAlen):=by
  cases h with
  |none=>
   obtain rfl:=ux hh;exact⟨_,by simp[dO,cM],by simp[dO,cM],rfl⟩
  |some s=>
   obtain⟨o,rfl,h1⟩:=uy hh;have hv:=hρ o (hmh o rfl) s  h1 k2;simp only[dO]at b2;cases hd:(ρ s).d<;>simp only[hd,lB]at b2;rename_i kk n;rw[hd]at hv;refine⟨_, ?_, ?_,rfl⟩
   ·simp only[Option.map_some,dO,cM,hd];rw[hv.ch,run_sliceBound x.w kk n cap _ b2.1 (by omega)]
   ·simp only[dO,cM,hd];omega
 obtain⟨code,g1,g2,rfl⟩:=hh';generalize cM (dO ρ h) len=B at*
 have hl':(match lo.map ev with|some v=>Instr.sliceBound v B .sliceB|none=>pure 0:Sem Nat).run C.P x.w=.ok (cM (dO ρ l) 0) x.w∧cM (dO ρ l) 0≤B:=by
  cases l with
  |none=>
   obtain rfl:=ux hl;exact⟨by simp[dO,cM],by simp[dO,cM]⟩
  |some s=>
   obtain⟨o,rfl,h1⟩:=uy hl;have hv:=hρ o (hml o rfl) s  h1 k1;simp only[dO]at b1;cases hd:(ρ s).d<;>simp only[hd,lB]at b1;rename_i kk n;rw[hd]at hv;refine⟨?_, ?_⟩
   ·simp only[Option.map_some,dO,cM,hd];rw[hv.ch,run_sliceBound x.w kk n _ _ b1.1 b1.2]
   ·simp only[dO,cM,hd];omega
 obtain⟨f1,f2⟩:=hl';refine⟨?_,f2,g2⟩;cases lo with
 |none=>
  simp only[Option.map_none,Sem.run_pure,Result.ok.injEq,and_true]at f1;cases hi with
  |none=>
   simp only[Option.map_none,Sem.run_pure,Result.ok.injEq,and_true]at g1;rw[←f1,←g1];simp[Instr.sliceBounds]
  |some v=>
   simp only[Option.map_some]at g1;rw[←f1];simp[Instr.sliceBounds,g1]
 |some u=>
  have f1':(Instr.sliceBound (ev u) B .sliceB).run C.P x.w=.ok (cM (dO ρ l) 0) x.w:=f1;clear f1;generalize cM (dO ρ l) 0=A at*
  cases hi with
  |none=>
   simp only[Option.map_none,Sem.run_pure,Result.ok.injEq,and_true]at g1;subst g1;simp only[Instr.sliceBounds,Option.map_some,Option.map_none,Sem.run_bind,Sem.run_pure,Result.andThen_ok,Option.isSome_none,Bool.false_eq_true,if_false,f1']
  |some v=>
   have g1':(Instr.sliceBound (ev v) cap (if Fq then BoundsCode.sliceAcap else .sliceAlen)).run C.P x.w=.ok B x.w:=g1;simp only[Instr.sliceBounds,Option.map_some,Option.map_none,Sem.run_bind,Sem.run_pure,Result.andThen_ok,Option.isSome_none,Bool.false_eq_true,if_false,g1',f1']
def xI {P:Program}{t:TypeId}{ks:List CK}{d:Nat}(ha:bh P t=false)(h1:∀k,P.underlying t=some (.int k)→False)(h2:P.underlying t=some .string→False)(h:dR P (d+1) t=some ks):P.underlying t=some .bool:=by
 unfold bh at ha;unfold dR at h;cases hu:P.underlying t with
 |none=>simp[hu]at h
 |some q=>cases q<;>simp_all
def sr {P:Program}{t:TypeId}{d:Nat}(h:P.underlying t=some .bool):dR P (d+1) t=some [.b]:=by
 unfold dR;simp[h]
def Ix {o:Oper}{i:aw}(hc:C.op defs o=some i)(hp:i.pure=true)(hρ:rA C defs ρ ev x o.op.operands.toList)(hob:i.cE Γ ρ m)(hs:dz C.ν x f):
  vb C.ν x f L (i.val Γ ρ m L) ((execOp ev o).run C.P x.w):=by
 cases ho:o.op with
 |move p=>
  simp only[CC.op,ho,Option.map_eq_some_iff]at hc;obtain⟨s,h1,rfl⟩:=hc;exact aS hs (by simp[execOp,ho]) (hρ p (by simp[ho,Op.operands,Call.operands]) s h1 hob)
 |assign p=>
  simp only[CC.op,ho,Option.map_eq_some_iff]at hc;obtain⟨s,h1,rfl⟩:=hc;exact aS hs (by simp[execOp,ho]) (hρ p (by simp[ho,Op.operands,Call.operands]) s h1 hob)
 |pick c a b=>
  simp only[CC.op,ho]at hc;split at hc
  ·rename_i c' a' b' h1 h2 h3;simp only[Option.some.injEq]at hc;subst hc;obtain⟨k1,k2⟩:=hob;have hcv:=hρ c (by simp[ho,Op.operands,Call.operands]) c' h1 k1;cases hd:(ρ c').d<;>simp only[hd]at k2;rename_i t;rw[hd]at hcv;simp only[aw.val,hd];refine aS hs ?_ (RD.pick (fun ht=>hρ a (by simp[ho,Op.operands,Call.operands]) a' h2 (k2.1 ht)) (fun ht=>hρ b (by simp[ho,Op.operands,Call.operands]) b' h3 (k2.2 ht)));simp[execOp,ho,hcv.fD,asBool]
  ·cases hc
 |build t ps=>
  simp only[CC.op,ho]at hc;split at hc
  ·rename_i z fs hz hu;split at hc;rotate_left
   ·cases hc
   rename_i hplaces;simp only[Option.map_eq_some_iff]at hc;obtain⟨ss,h1,rfl⟩:=hc;obtain⟨ti,cs,hi,hzv,hr⟩:=xd (x:=x) hz;have hsz:cs.size=z.length:=by cases hr with|agg _ _ hl _ _=>exact hl
   obtain⟨cs',g1,g2⟩:=m8 hρ _ z.length ps.toList ss (fun p hp=>by simp only[ho,Op.operands,List.mem_map];exact⟨p,hp,rfl⟩) h1 hob cs z hsz hr;refine aS hs ?_ g2;have hpl:=r0 (P:=C.P) x.w fs.toList (fun f hf=>(List.all_eq_true.1 hplaces) f hf);have hpl':(fs.mapM (fun f:Field=>(do pure (f.offset,←sizeOf f.type):Sem (Nat×Nat)))).run C.P x.w=.ok (fs.map fun f:Field=>(f.offset,C.P.cellsOf f.type)) x.w:=by
    rw[Array.mapM_eq_mapM_toList,Sem.run_map,hpl];simp[Result.andThen,List.map_toArray];apply Array.ext';simp
   have hg:Instr.fill (fun i:Nat=>(fs.map fun f:Field=>(f.offset,C.P.cellsOf f.type))[i]?) cs (ps.map fun(i,o)=>(i,ev o)).toList=some cs':=by
    have e:(fun i:Nat=>(fs.map fun f:Field=>(f.offset,C.P.cellsOf f.type))[i]?)=(fun i=>(fs[i]?).map fun f:Field=>(f.offset,C.P.cellsOf f.type)):=by
     funext q;simp
    rw[e,Array.toList_map];exact g1
   simp only[execOp,ho,Instr.build,Sem.run_bind,zeroValue,run_typeInfo x.w hi,Result.andThen_ok,hzv,Sem.run_pure,run_underlying hu,hpl',Value.cells,hg]
  ·rename_i z n e hz hu;split at hc
   ·cases hc
   rename_i hce;simp only[Option.map_eq_some_iff]at hc;obtain⟨ss,h1,rfl⟩:=hc;obtain⟨ti,cs,hi,hzv,hr⟩:=xd (x:=x) hz;have hsz:cs.size=z.length:=by cases hr with|agg _ _ hl _ _=>exact hl
   obtain⟨cs',g1,g2⟩:=m8 hρ _ z.length ps.toList ss (fun p hp=>by simp only[ho,Op.operands,List.mem_map];exact⟨p,hp,rfl⟩) h1 hob cs z hsz hr;refine aS hs ?_ g2;have hg:Instr.fill (fun i=>some (i*C.P.cellsOf e,C.P.cellsOf e)) cs (ps.map fun(i,o)=>(i,ev o)).toList=some cs':=by
    rw[Array.toList_map];exact g1
   simp only[execOp,ho,Instr.build,Sem.run_bind,zeroValue,run_typeInfo x.w hi,Result.andThen_ok,hzv,Sem.run_pure,run_underlying hu,b8 hce,Value.cells,hg]
  ·cases hc
 |nilCheck p=>
  simp only[CC.op,ho,Option.map_eq_some_iff]at hc;obtain⟨s,h1,rfl⟩:=hc;obtain⟨k1,k2⟩:=hob;have hv:=hρ p (by simp[ho,Op.operands,Call.operands]) s h1 k1;refine aS hs ?_ hv;cases hd:(ρ s).d<;>simp only[hd]at k2<;>rw[hd]at hv<;>generalize he:ev p=vp at hv<;>cases hv<;>simp[execOp,ho,he]
 |binOp op t p q u=>
  simp only[CC.op,ho]at hc;split at hc
  ·rename_i a b h1 h2;have hbin:∀(i':aw),i'=.bin op a b→i'.cE Γ ρ m→vb C.ν x f L (i'.val Γ ρ m L) ((execOp ev o).run C.P x.w):=by
    rintro _ rfl ⟨k1,k2,k3⟩;have hv:=hρ p (by simp[ho,Op.operands,Call.operands]) a h1 k1;have hw:=hρ q (by simp[ho,Op.operands,Call.operands]) b h2 k2;rcases Ay k3 with⟨kk,n,kk',n',e1,e2⟩|⟨s,s',e1,e2⟩
    ·rw[e1]at hv k3;rw[e2]at hw k3;obtain⟨v,r1,r2⟩:=zK (ν:=C.ν) (x:=x) (P:=C.P) (t:=t) x.w k3;refine aS hs (pM ho (mM _ _ _ _ (by rw[hv.ch];exact⟨by simp,by simp⟩) _) (by rw[hv.ch,hw.ch];exact r1)) ?_;simp only[aw.val,e1,e2];exact r2
    ·rw[e1]at hv k3;rw[e2]at hw k3;obtain⟨v,r1,r2⟩:=zL (ν:=C.ν) (x:=x) (P:=C.P) (t:=t) x.w k3;refine aS hs (pM ho (mM _ _ _ _ (by rw[hv.fJ.1];exact⟨by simp,by simp⟩) _) (by rw[hv.fJ.1,hw.fJ.1];exact r1)) ?_;simp only[aw.val,e1,e2];exact r2
   split at hc
   ·simp only[Option.some.injEq]at hc;exact hc▸hbin _ rfl (hc▸hob)
   ·simp only[Option.some.injEq]at hc;exact hc▸hbin _ rfl (hc▸hob)
   ·rename_i hu1 hu2;split at hc
    ·cases hc
    ·rename_i hge;have hge':C.P.eqGuardType C.P.depth t=false:=by simpa using hge
     have heq:∀(neg:Bool) (ks:List CK),dR C.P 30 t=some ks→op=(if neg then .neq else .eql)→i=.eqA neg (bh C.P t) ks a b→vb C.ν x f L (i.val Γ ρ m L) ((execOp ev o).run C.P x.w):=by
      rintro neg ks hks hop rfl;obtain⟨k1,k2,a1,a2,f1,f2⟩:=hob;have hv:=hρ p (by simp[ho,Op.operands,Call.operands]) a h1 k1;have hw:=hρ q (by simp[ho,Op.operands,Call.operands]) b h2 k2;have hrun:=mN (ν:=C.ν) (x:=x) (P:=C.P) 30 t ks hks 10000 (by omega) (ev p) (ev q) _ _ x.w hv hw a1 a2 f1 f2;cases hag:bh C.P t
      ·rw[hag]at a1 a2

       have hub:C.P.underlying t=some .bool:=xI (d:=29) hag hu1 hu2 hks;rw[sr (d:=29) hub,Option.some.injEq]at hks;subst hks;have g1:=iQ f1 a1;have g2:=iQ f2 a2;cases e1:(ρ a).d<;>simp only[e1,CK.fits]at g1;cases e2:(ρ b).d<;>simp only[e2,CK.fits]at g2;rename_i b1 b2;rw[e1]at hv;rw[e2]at hw;refine aS hs (v:=.bool (if neg then !(b1==b2)else b1==b2)) (pM ho (mM _ _ _ _ (by rw[hv.fD];exact⟨by simp,by simp⟩) _) ?_) ?_
       ·rw[hv.fD,hw.fD,hop];cases neg
        ·simpa using run_eql_bool x.w t b1 b2 hub
        ·simpa using run_neq_bool x.w t b1 b2 hub
       ·simp only[aw.val,e1,e2,D.cells,fE,KA,Bool.and_true];cases neg<;>exact .bool _
      ·rw[hag]at a1 a2;cases e1:(ρ a).d<;>simp only[e1,D.isAgg,Bool.false_eq_true]at a1;cases e2:(ρ b).d<;>simp only[e2,D.isAgg,Bool.false_eq_true]at a2;rw[e1]at hv;rw[e2]at hw;rw[e1,e2]at hrun;generalize hep:ev p=vp at*
       generalize heq':ev q=vq at*
       cases hv with
       |agg xs _ p1 p2 p3=>
        cases hw with
        |agg ys _ q1 q2 q3=>
         refine aS hs (pM (v:=.bool (if op=.neq then !(fE (D.agg _).cells (D.agg _).cells)else fE (D.agg _).cells (D.agg _).cells)) ho (by rw[hep,heq'];exact run_eqGuard_agg x.w _ _ _ _ _ _ hge') (by rw[hep,heq'];exact xk op (by cases neg<;>simp[hop]) t xs ys _ x.w C.P hrun)) ?_;simp only[aw.val,e1,e2];cases neg<;>simp only[hop,if_true,if_false,Bool.false_eq_true,cond_true,cond_false,reduceCtorEq]<;>exact .bool _
     split at hc
     ·rename_i ks hks;simp only[Option.some.injEq]at hc;exact heq false ks hks rfl hc.symm
     ·rename_i ks hks;simp only[Option.some.injEq]at hc;exact heq true ks hks rfl hc.symm
     ·cases hc
  ·cases hc
 |unOp op t p=>
  simp only[CC.op,ho,Option.map_eq_some_iff]at hc;obtain⟨s,h1,rfl⟩:=hc;obtain⟨k1,k2⟩:=hob;have hv:=hρ p (by simp[ho,Op.operands,Call.operands]) s h1 k1;cases op<;>cases hd:(ρ s).d<;>simp only[hd]at k2<;>rw[hd]at hv<;>simp only[aw.val,hd]
  ·exact aS hs (by simp[execOp,ho,hv.ch,Op.unary,Op.intArith]) (.int _ _)
  ·exact aS hs (by simp[execOp,ho,hv.fD,Op.unary]) (.bool _)
 |convert s d p=>
  simp only[CC.op,ho]at hc;split at hc
  ·rename_i ks k a hu1 hu2 h1;simp only[Option.some.injEq]at hc;subst hc;obtain⟨k1,k2⟩:=hob;have hv:=hρ p (by simp[ho,Op.operands,Call.operands]) a h1 k1;cases hd:(ρ a).d<;>simp only[hd]at k2;rw[hd]at hv;simp only[aw.val,hd];exact aS hs (by simp[execOp,ho,hv.ch,convert,run_underlying hu1,run_underlying hu2,Conv.intToInt]) (.int _ _)
  ·rename_i ks a hu1 hu2 h1;simp only[Option.some.injEq]at hc;subst hc;obtain⟨k1,k2⟩:=hob;have hv:=hρ p (by simp[ho,Op.operands,Call.operands]) a h1 k1;cases hd:(ρ a).d<;>simp only[hd]at k2;rename_i n;rw[hd]at hv;simp only[aw.val,hd];refine aS hs (v:=.string (Utf8.encode n)) (by simp[execOp,ho,hv.ch,convert,run_underlying hu1,run_underlying hu2,Conv.intToString]) ?_;have h4:=encode_size_le n;have e:Utf8.encode n=⟨⟨GN n⟩⟩:=rfl;rw[e];refine .str _ ?_;have:(GN n).length=(Utf8.encode n).size:=rfl;simp only[maxLen];omega
  ·split at hc
   ·simp only[Option.some.injEq]at hc;subst hc;simp[aw.pure]at hp
   ·cases hc
  ·split at hc
   ·simp only[Option.some.injEq]at hc;subst hc;simp[aw.pure]at hp
   ·cases hc
  ·cases hc
 |makeFunc fn first caps=>
  cases fn with
  |func fid=>
   simp only[CC.op,ho]at hc;split at hc
   ·rename_i n l h1 h2;split at hc
    ·rename_i hfe;simp only[Option.some.injEq]at hc;subst hc;obtain⟨e1,e2,e3⟩:=ek hρ caps.toList l (fun o' ho'=>by simp only[ho,Op.operands,Array.toList_append,List.mem_append];exact .inr ho') h2 hob;have hf0:first=#[]:=by simpa using hfe
     refine aS hs (v:=.func (.func fid) #[] (caps.map ev)) (by simp[execOp,ho,Instr.makeFunc,hf0]) ?_;refine .fn fid n _ _ h1 (by simp[e2]) (fun i hi=>?_);have:=e3 i hi;rw[←aZ,Array.toList_map];exact this
    ·split at hc
     ·rename_i hle;simp only[Option.map_eq_some_iff]at hc;obtain⟨l1,hl1,rfl⟩:=hc;obtain⟨e1,e2,e3⟩:=ek hρ first.toList l1 (fun o' ho'=>by simp only[ho,Op.operands,Array.toList_append,List.mem_append];exact .inl ho') hl1 hob
      obtain⟨_,q2,_⟩:=ek hρ caps.toList l (fun o' ho'=>by simp only[ho,Op.operands,Array.toList_append,List.mem_append];exact .inr ho') h2 (by rw[List.isEmpty_iff.1 hle];trivial);have hf0:caps=#[]:=by
       rw[List.isEmpty_iff.1 hle]at q2;exact Array.eq_empty_of_size_eq_zero (by simpa[fm]using q2.symm)
      refine aS hs (v:=.func (.func fid) (first.map ev) #[]) (by simp[execOp,ho,Instr.makeFunc,hf0]) ?_;refine .cM fid n _ _ h1 (by simp[e2]) (fun i hi=>?_);have:=e3 i hi;rw[←aZ,Array.toList_map];exact this
     ·cases hc
   ·cases hc
  |_=>simp[CC.op,ho]at hc
 |slice t p lo hi mx=>
  simp only[CC.op,ho]at hc;split at hc
  ·rename_i a l h hu h1 hl hh;simp only[Option.some.injEq]at hc;subst hc;obtain⟨k1,k2,k3,k4⟩:=hob;have hv:=hρ p (by simp[ho,Op.operands,Call.operands]) a h1 k1;cases hd:(ρ a).d<;>simp only[hd]at k4;rename_i s;rw[hd]at hv;obtain⟨e1,e2⟩:=hv.fJ;obtain⟨b1,b2,b3⟩:=lC hρ (by rintro _ rfl;simp[ho,Op.operands]) (by rintro _ rfl;simp[ho,Op.operands]) hl hh k2 k3 false s.length s.length (fun _=>rfl) (Nat.le_refl _) k4.1 k4.2;simp only[aw.val,hd];have hsz:(⟨⟨s⟩⟩:ByteArray).size=s.length:=rfl;refine aS hs (v:=.string ⟨⟨(s.take (cM (dO ρ h) s.length)).drop (cM (dO ρ l) 0)⟩⟩) ?_ (.str _ (by simp;omega));simp[execOp,ho,e1,Instr.sliceAt,Instr.slice,run_underlying hu,hsz,b1,vA]
  ·rename_i e a l h hu h1 hl hh;split at hc
   ·cases hc
   rename_i hce;simp only[Option.some.injEq]at hc;subst hc;obtain⟨k1,k2,k3,k4⟩:=hob;have hv:=hρ p (by simp[ho,Op.operands,Call.operands]) a h1 k1;cases hd:(ρ a).d<;>simp only[hd]at k4
   ·
    rw[hd]at hv;obtain⟨b1,b2,b3⟩:=lC hρ (by rintro _ rfl;simp[ho,Op.operands]) (by rintro _ rfl;simp[ho,Op.operands]) hl hh k2 k3 true 0 0 (fun e=>by simp at e) (Nat.le_refl _) k4.1 (by
     have:cM (dO ρ h) 0=0:=by
      have:=k4.1;cases hdh:dO ρ h with
      |none=>rfl
      |some d=>rw[hdh]at this;cases d<;>simp_all[lB,cM]
     rw[this];exact k4.2)
    simp only[aw.val,hd];have e0:ev p=.slice none 0 0:=by generalize ev p=vp at hv;cases hv;rfl
    refine aS hs (v:=.slice none 0 0) ?_ .av;have z1:cM (dO ρ l) 0=0:=by omega
    have z2:cM (dO ρ h) 0=0:=by omega
    rw[z1,z2]at b1;simp[execOp,ho,e0,Instr.sliceAt,Instr.slice,run_underlying hu,b1,b8 hce]
   ·rename_i k es;rw[hd]at hv;simp only[aw.val,hd];generalize hep:ev p=vp at hv;have hv2:=hv;cases hv with
    |sl aa b off len cap _ _ c hlen ha hcap hm hk hn hc' hone hh'=>
     subst hlen;obtain⟨b1,b2,b3⟩:=lC hρ (by rintro _ rfl;simp[ho,Op.operands]) (by rintro _ rfl;simp[ho,Op.operands]) hl hh k2 k3 true es.length cap (fun e=>by simp at e) hcap k4.2.1 k4.2.2;refine aS hs (v:=.slice (if cap=cM (dO ρ l) 0 then aa else aa.map (·.add (cM (dO ρ l) 0*C.P.cellsOf e))) (cM (dO ρ h) es.length-cM (dO ρ l) 0) (cap-cM (dO ρ l) 0)) ?_ ?_
     ·simp[execOp,ho,hep,Instr.sliceAt,Instr.slice,run_underlying hu,b1,b8 hce]
     ·rw[←k4.1];exact LB hv2 b2 b3
   ·rename_i L' k i n;rw[hd]at hv;simp only[aw.val,hd];obtain⟨k5,k6,k7⟩:=k4;obtain⟨aa,cap,he,hle0,hr⟩:=IC hv;obtain⟨b1,b2,b3⟩:=lC hρ (by rintro _ rfl;simp[ho,Op.operands]) (by rintro _ rfl;simp[ho,Op.operands]) hl hh k2 k3 true n cap (fun e=>by simp at e) hle0 k6 k7;refine aS hs ?_ (hr _ _ b2 b3);simp only[execOp,ho,he,Instr.sliceAt,Instr.slice,run_underlying hu,Sem.run_bind,Result.andThen_ok,Option.map_none,b1,b8 hce,Sem.run_pure,k5]
  ·rename_i e a h mo hu h1 hl hh;obtain rfl:=ux hl;obtain⟨oh,rfl,hh1⟩:=uy hh;split at hc;rotate_left
   ·cases hc
   rename_i ms hms;split at hc
   ·cases hc
   rename_i hce;simp only[Option.some.injEq]at hc;subst hc;obtain⟨k1,k2,k3,k4⟩:=hob;have hv:=hρ p (by simp[ho,Op.operands,Call.operands]) a h1 k1;have hvh:=hρ oh (by simp[ho,Op.operands]) h hh1 k2;have hvm:=hρ mo (by simp[ho,Op.operands]) ms hms k3;cases hdh:(ρ h).d<;>simp only[hdh]at k4;cases hdm:(ρ ms).d<;>simp only[hdm]at k4;rename_i kh nh km nm;rw[hdh]at hvh;rw[hdm]at hvm;obtain⟨p1,p2,p3⟩:=k4;cases hd:(ρ a).d<;>simp only[hd]at p3
   ·
    rw[hd]at hv;simp only[aw.val,hd,hdh];have e0:ev p=.slice none 0 0:=by generalize ev p=vp at hv;cases hv;rfl
    have b1:=oH (C:=C) (x:=x) (len:=0) (cap:=0) hvh.ch hvm.ch p1 p2 (by omega);refine aS hs (v:=.slice none 0 0) ?_ .av;have z1:nh.toNat=0:=by omega
    have z2:nm.toNat=0:=by omega
    rw[z1,z2]at b1;simp[execOp,ho,e0,Instr.sliceAt,Instr.slice,run_underlying hu,b1,b8 hce]
   ·rename_i k es;rw[hd]at hv;simp only[aw.val,hd,hdh];generalize hep:ev p=vp at hv;have hv2:=hv;cases hv with
    |sl aa b off len cap _ _ c hlen ha hcap hm hk hn hc' hone hh'=>
     subst hlen;have b1:=oH (C:=C) (x:=x) (len:=es.length) (cap:=cap) hvh.ch hvm.ch p1 p2 (by omega);refine aS hs (v:=.slice (if nm.toNat=0 then aa else aa.map (·.add (0*C.P.cellsOf e))) nh.toNat nm.toNat) ?_ ?_
     ·simp[execOp,ho,hep,Instr.sliceAt,Instr.slice,run_underlying hu,b1,b8 hce]
     ·rw[←p3.1];exact Lz hv2 (by omega) (by omega)
   ·rename_i L' k i n;rw[hd]at hv;simp only[aw.val,hd,hdh];obtain⟨k5,k6⟩:=p3;obtain⟨aa,cap,he,hle0,hr⟩:=IB hv;have b1:=oH (C:=C) (x:=x) (len:=n) (cap:=cap) hvh.ch hvm.ch p1 p2 (by omega);refine aS hs ?_ (hr nh.toNat nm.toNat (by omega) (by omega));simp only[execOp,ho,he,Instr.sliceAt,Instr.slice,run_underlying hu,Sem.run_bind,Result.andThen_ok,Option.map_none,Option.map_some,b1,b8 hce,Sem.run_pure,k5,Nat.sub_zero]
  ·cases hc
 |fieldAddr t p fi=>
  simp only[CC.op,ho]at hc;split at hc
  ·rename_i fs a hu h1;split at hc
   ·rename_i fl hfl;split at hc
    ·cases hc
    rename_i hce;simp only[Option.some.injEq]at hc;subst hc;obtain⟨k1,k2⟩:=hob;have hv:=hρ p (by simp[ho,Op.operands,Call.operands]) a h1 k1;have hrun:∀(b c:Nat),ev p=.pointer (some ⟨b,c,none⟩)→(execOp ev o).run C.P x.w=.ok (.value (.pointer (some ⟨b,c+fl.offset,none⟩))) x.w:=by
     intro b c he;simp[execOp,ho,he,Instr.fieldAt,run_underlying hu,hfl,Instr.sureAddr,fieldPlace,b8 hce,hce,Addr.sf]
    cases hd:(ρ a).d<;>simp only[hd]at k2
    ·rename_i k es i o';rw[hd]at hv;simp only[aw.val,hd];generalize hep:ev p=vp at hv;cases hv with
     |ref b off _ _ _ at_ _ c hI hat hk hn hc' h1' hh'=>
      exact aS hs (hrun _ _ hep) (.ref b off k i (o'+fl.offset) _ es c hI (by omega) hk hn hc' h1' hh')
    ·rename_i l k i o';rw[hd]at hv;simp only[aw.val,hd];generalize hep:ev p=vp at hv;cases hv with
     |ptr _ _ _ _ b base tot at_ hβ hat=>
      exact aS hs (hrun _ _ hep) (.ptr l k i (o'+fl.offset) b base tot _ hβ (by omega))
   ·cases hc
  ·cases hc
 |field t p fi=>
  simp only[CC.op,ho]at hc;split at hc
  ·rename_i fs a hu h1;split at hc
   ·rename_i fl hfl;split at hc
    ·cases hc
    rename_i hce;simp only[Option.some.injEq]at hc;subst hc;obtain⟨k1,k2⟩:=hob;have hv:=hρ p (by simp[ho,Op.operands,Call.operands]) a h1 k1;cases hd:(ρ a).d<;>simp only[hd]at k2;rename_i ds;rw[hd]at hv;generalize hep:ev p=vp at hv;have hv2:=hv;cases hv with
    |agg cs _ _ _ _=>
     obtain⟨v,r1,r2⟩:=lj (P:=C.P) (t:=fl.type) (off:=fl.offset) (n:=C.P.cellsOf fl.type) (ag:=bh C.P fl.type) x.w hv2 (fun e=>hce (.inl e)) (by cases hn:(C.P.underlying fl.type).isNone with|false=>rfl|true=>exact absurd (.inr hn) hce) rfl rfl k2.1 k2.2;refine aS hs (v:=v) ?_ (by simp only[aw.val,hd,D.cells];exact r2);simp[execOp,ho,hep,Instr.field,run_underlying hu,hfl,asAgg,r1]
   ·cases hc
  ·cases hc
 |indexAddr t p q=>
  simp only[CC.op,ho]at hc;split at hc
  ·rename_i e a b hu h1 h2;split at hc
   ·cases hc
   rename_i hce;simp only[Option.some.injEq]at hc;subst hc;obtain⟨k1,k2,k3⟩:=hob;have hv:=hρ p (by simp[ho,Op.operands,Call.operands]) a h1 k1;have hw:=hρ q (by simp[ho,Op.operands,Call.operands]) b h2 k2;cases hd2:(ρ b).d<;>cases hd:(ρ a).d<;>simp only[hd,hd2]at k3
   ·rename_i kk n k es;rw[hd]at hv;rw[hd2]at hw;obtain⟨k4,k5,k6⟩:=k3;simp only[aw.val,hd,hd2];generalize hep:ev p=vp at hv;cases hv with
    |sl aa b' off len cap _ _ c hlen ha hcap hm hk hn hc' hone hh'=>
     rcases ha with rfl|⟨rfl,hI⟩
     ·simp at k6;omega
     ·refine aS hs (v:=.pointer (some ⟨b',off+n.toNat*C.P.cellsOf e,none⟩)) ?_ ?_
      ·simp[execOp,ho,hep,hw.ch,Instr.indexAt,asIntOf,run_underlying hu,hlen,k5,k6,b8 hce,Addr.sf]
      ·subst hlen;exact .ref b' off k n.toNat 0 _ es c hI (by rw[k4];omega) hk hn hc' hone hh'
   ·rename_i kk n L' k i len;rw[hd]at hv;rw[hd2]at hw;obtain⟨k4,k5,k6⟩:=k3;simp only[aw.val,hd,hd2];generalize hep:ev p=vp at hv;cases hv with
    |own _ _ _ _ b' base tot cap aa hβ ha hcap hm ht=>
     have ha':=ha (by omega);subst ha';refine aS hs (v:=.pointer (some ⟨b',base+i*k+n.toNat*C.P.cellsOf e,none⟩)) ?_ ?_
     ·simp[execOp,ho,hep,hw.ch,Instr.indexAt,asIntOf,run_underlying hu,k5,k6,b8 hce,Addr.sf]
     ·exact .ptr L' k (i+n.toNat) 0 b' base tot _ hβ (by rw[Nat.add_mul,k4];omega)
    |own0=>omega
  ·rename_i len e a b hu h1 h2;split at hc
   ·cases hc
   rename_i hce;simp only[Option.some.injEq]at hc;subst hc;obtain⟨k1,k2,k3⟩:=hob;have hv:=hρ p (by simp[ho,Op.operands,Call.operands]) a h1 k1;have hw:=hρ q (by simp[ho,Op.operands,Call.operands]) b h2 k2;have hrun:∀(b c:Nat) (kk:IntKind) (n:Int),ev p=.pointer (some ⟨b,c,none⟩)→ev q=.int kk n→0≤n→n<len→(execOp ev o).run C.P x.w=.ok (.value (.pointer (some ⟨b,c+n.toNat*C.P.cellsOf e,none⟩))) x.w:=by
    intro b c kk n he he' g1 g2;simp[execOp,ho,he,he',Instr.indexAt,asIntOf,run_underlying hu,Instr.sureAddr,g1,g2,b8 hce,Addr.sf]
   cases hd2:(ρ b).d<;>cases hd:(ρ a).d<;>simp only[hd,hd2]at k3
   ·rename_i kk n k es i o';rw[hd]at hv;rw[hd2]at hw;simp only[aw.val,hd,hd2];generalize hep:ev p=vp at hv;cases hv with
    |ref b' off _ _ _ at_ _ c hI hat hk hn hc' h1' hh'=>
     exact aS hs (hrun _ _ _ _ hep hw.ch k3.1 k3.2) (.ref b' off k i (o'+n.toNat*C.P.cellsOf e) _ es c hI (by omega) hk hn hc' h1' hh')
   ·rename_i kk n L' k i o';rw[hd]at hv;rw[hd2]at hw;simp only[aw.val,hd,hd2];generalize hep:ev p=vp at hv;cases hv with
    |ptr _ _ _ _ b' base tot at_ hβ hat=>
     exact aS hs (hrun _ _ _ _ hep hw.ch k3.1 k3.2) (.ptr L' k i (o'+n.toNat*C.P.cellsOf e) b' base tot _ hβ (by omega))
  ·cases hc
 |index t p q=>
  simp only[CC.op,ho]at hc;split at hc
  ·rename_i a b hu h1 h2;simp only[Option.some.injEq]at hc;subst hc;obtain⟨k1,k2,k3⟩:=hob;have hv:=hρ p (by simp[ho,Op.operands,Call.operands]) a h1 k1;have hw:=hρ q (by simp[ho,Op.operands,Call.operands]) b h2 k2;cases hd2:(ρ b).d<;>cases hd:(ρ a).d<;>simp only[hd,hd2]at k3;rename_i kk n s;rw[hd]at hv;rw[hd2]at hw;obtain⟨e1,e2⟩:=hv.fJ;simp only[aw.val,hd,hd2];have hsz:(⟨⟨s⟩⟩:ByteArray).size=s.length:=rfl;have hlt:n.toNat<s.length:=by omega
   refine aS hs (v:=.int .u8 (s.getD n.toNat 0).toNat) ?_ (.int _ _);simp only[execOp,ho,e1,hw.ch,Sem.run_bind,run_index_string x.w t _ kk n hu,hsz];rw[dif_pos k3];simp only[Result.andThen_ok,Sem.run_pure];congr 4;show(((⟨s⟩:Array UInt8)[n.toNat]'hlt)).toNat=_;simp[List.getD,hlt]
  ·rename_i len e a b hu h1 h2;split at hc
   ·cases hc
   rename_i hce;simp only[Option.some.injEq]at hc;subst hc;obtain⟨k1,k2,k0,k3⟩:=hob;have hv:=hρ p (by simp[ho,Op.operands,Call.operands]) a h1 k1;have hw:=hρ q (by simp[ho,Op.operands,Call.operands]) b h2 k2;cases hd2:(ρ b).d<;>cases hd:(ρ a).d<;>simp only[hd,hd2]at k3;rename_i kk n ds;rw[hd]at hv;rw[hd2]at hw;generalize hep:ev p=vp at hv;have hv2:=hv;cases hv with
   |agg cs _ _ _ _=>
    have hb:n.toNat*C.P.cellsOf e+C.P.cellsOf e≤ds.length:=by
     rw[k3.2.2,←Nat.succ_mul];exact Nat.mul_le_mul_right _ (by omega)
    obtain⟨v,r1,r2⟩:=lj (P:=C.P) (t:=e) (off:=n.toNat*C.P.cellsOf e) (n:=C.P.cellsOf e) (ag:=bh C.P e) x.w hv2 (fun e=>hce (.inl e)) (by cases hn:(C.P.underlying e).isNone with|false=>rfl|true=>exact absurd (.inr hn) hce) rfl rfl hb k0;refine aS hs (v:=v) ?_ (by simp only[aw.val,hd,hd2,D.cells];exact r2);simp[execOp,ho,hep,hw.ch,Instr.index,asIntOf,run_underlying hu,k3.1,k3.2.1,b8 (fun e=>hce (.inl e)),r1]
  ·cases hc
 |extract p n=>
  simp only[CC.op,ho,Option.map_eq_some_iff]at hc;obtain⟨s,h1,rfl⟩:=hc;obtain⟨k1,k2⟩:=hob;have hv:=hρ p (by simp[ho,Op.operands,Call.operands]) s h1 k1;cases hd:(ρ s).d<;>simp only[hd]at k2;rw[hd]at hv;generalize hep:ev p=vp at hv;cases hv with
  |tup cs _ hl hh=>
   have hlt:n<cs.size:=by omega
   refine aS hs (v:=cs.getD n undef) ?_ (by simp only[aw.val,hd];exact hh n k2);simp[execOp,ho,hep,Instr.extract,Array.getElem?_eq_getElem hlt,Array.getD,hlt]
 |call c=>
  obtain⟨callee,args,argTypes⟩:=c;cases callee with
  |builtin bu=>
   cases bu with
   |len=>
    simp only[CC.op,ho]at hc;split at hc
    ·rename_i p t hargs htys;have hargs':args=#[p]:=by apply Array.ext';simpa using hargs
     have htys':argTypes=#[t]:=by apply Array.ext';simpa using htys
     subst hargs';subst htys';split at hc
     ·rename_i a h1 hu;simp only[Option.some.injEq]at hc;subst hc;obtain⟨k1,k2⟩:=hob;have hv:=hρ p (by simp[ho,Op.operands,Call.operands]) a h1 k1;have hrun:∀s,ev p=.string s→(execOp ev o).run C.P x.w=.ok (.value (.int .i64 s.size)) x.w:=by
       intro s he;simp[execOp,ho,resolve,invoke,builtin,Builtin.len_,he,run_underlying hu,goInt]
      cases hd:(ρ a).d<;>simp only[hd]at k2
      ·rw[hd]at hv;simp only[aw.val,hd];exact aS hs (hrun _ hv.fJ.1) (.int _ _)
     ·rename_i a e h1 hu;simp only[Option.some.injEq]at hc;subst hc;obtain⟨k1,k2⟩:=hob;have hv:=hρ p (by simp[ho,Op.operands,Call.operands]) a h1 k1;have hrun:∀b n cc,ev p=.slice b n cc→(execOp ev o).run C.P x.w=.ok (.value (.int .i64 n)) x.w:=by
       intro b n cc he;simp[execOp,ho,resolve,invoke,builtin,Builtin.len_,he,run_underlying hu,goInt]
      cases hd:(ρ a).d<;>simp only[hd]at k2
      ·rw[hd]at hv;simp only[aw.val,hd];generalize hep:ev p=vp at hv;cases hv;exact aS hs (hrun _ _ _ hep) (.int _ _)
      ·rw[hd]at hv;simp only[aw.val,hd];generalize hep:ev p=vp at hv;cases hv with
       |sl aa b off len cap _ _ cf hlen ha hcap hm hk hn hc' hone hh'=>
        subst hlen;exact aS hs (hrun _ _ _ hep) (.int _ _)
      ·rw[hd]at hv;simp only[aw.val,hd];generalize hep:ev p=vp at hv;cases hv with
       |own _ _ _ _ b base tot cap aa hβ ha hcap hm ht=>
        exact aS hs (hrun _ _ _ hep) (.int _ _)
       |own0=>exact aS hs (hrun _ _ _ hep) (.int _ _)
     ·cases hc
    ·cases hc
   |append=>simp only[CC.op,ho]at hc;(repeat' split at hc)<;>simp_all[aw.pure]<;>(subst hc;simp_all[aw.pure])
   |_=>simp[CC.op,ho]at hc
  |value f=>
   cases f with
   |func fid=>simp only[CC.op,ho]at hc;(repeat' split at hc)<;>simp_all[aw.pure]<;>(subst hc;simp_all[aw.pure])
   |tmp t=>simp only[CC.op,ho]at hc;(repeat' split at hc)<;>simp_all[aw.pure]<;>(subst hc;simp_all[aw.pure])
   |_=>simp[CC.op,ho]at hc
  |invoke r n=>simp[CC.op,ho]at hc
 |alloc t=>simp only[CC.op,ho]at hc;(repeat' split at hc)<;>simp_all[aw.pure]<;>(subst hc;simp_all[aw.pure])
 |box t p=>simp only[CC.op,ho]at hc;(repeat' split at hc)<;>simp_all[aw.pure]<;>(subst hc;simp_all[aw.pure])
 |buildSlice t n ps=>simp only[CC.op,ho]at hc;(repeat' split at hc)<;>simp_all[aw.pure]<;>(subst hc;simp_all[aw.pure])
 |load t p=>simp only[CC.op,ho]at hc;(repeat' split at hc)<;>simp_all[aw.pure]<;>(subst hc;simp_all[aw.pure])
 |store t p q=>simp only[CC.op,ho]at hc;(repeat' split at hc)<;>simp_all[aw.pure]<;>(subst hc;simp_all[aw.pure])
 |makeSlice t a b=>simp only[CC.op,ho]at hc;(repeat' split at hc)<;>simp_all[aw.pure]<;>(subst hc;simp_all[aw.pure])
 |range t p=>simp only[CC.op,ho]at hc;(repeat' split at hc)<;>simp_all[aw.pure]<;>(subst hc;simp_all[aw.pure])
 |next it b=>
  cases b
  ·simp[CC.op,ho]at hc
  ·simp only[CC.op,ho,Option.map_eq_some_iff]at hc;obtain⟨s,h1,rfl⟩:=hc;simp[aw.pure]at hp
 |_=>simp[CC.op,ho]at hc
end
end Go.Abs
end
