/- A part of the proofs of the statements: AbsD, AbsC, AbsR, AbsO, AbsP, AbsQ. -/
import Derived.Attr
import Derived.ChangeKeysEq
import Derived.Deep.AppendSrc
import Derived.WalkKit
import GoSem.Dispatch
import GoSem.Step
set_option linter.all false
namespace Go.Abs
inductive D where
 | any
 | bool (b : Bool)
 | int (k : IntKind) (n : Int)
 | str (s : List UInt8)
 | agg (cs : List D)
 | tup (ds : List D)
 | av
 | sl (k : Nat) (es : List D)
 | ref (k : Nat) (es : List D) (i o : Nat)
 | ptr (l k i o : Nat)
 | own (l k i n : Nat)
 | nilp
 | fn (f : Nat) (caps : List D)
 | nilf
 | it (l : Nat)
 deriving Inhabited
inductive Src where
 | s (n : Nat)
 | l (p : Nat)
 | c (d : D)
 deriving Inhabited
inductive Sh where
 | a
 | sl (k : Nat) (cs : List Sh)
 | pt (cs : List Sh)
 deriving Inhabited
inductive CK where
 | b | i (k : IntKind) | s
 deriving Inhabited
inductive aA where
 | mv (x : Src)
 | pick (c a b : Src)
 | box (k : Nat) (x : Src)
 | build (z : List D) (parts : List (Nat × Nat × Src))
 | bsl (k : Nat) (z : D) (n : Nat) (parts : List (Nat × Src))
 | ld (n : Nat) (ag : Bool) (p : Src)
 | st (n : Nat) (p v : Src)
 | nilck (x : Src)
 | bin (op : BinOp) (x y : Src)
 | eqA (neg ag : Bool) (ks : List CK) (x y : Src)
 | un (op : UnOp) (x : Src)
 | cvi (k : IntKind) (x : Src)
 | s2b (x : Src)
 | b2s (x : Src)
 | i2s (x : Src)
 | mkf (f : Nat) (caps : List Src)
 | mks (k : Nat) (z : D) (ln cp : Src)
 | slS (x : Src) (lo hi : Option Src)
 | slA (k : Nat) (x : Src) (lo hi : Option Src)
 | slX (k : Nat) (x hi mx : Src)
 | fa (off : Nat) (p : Src)
 | fld (off n : Nat) (ag : Bool) (x : Src)
 | ia (k : Nat) (x i : Src)
 | iaP (n k : Nat) (x i : Src)
 | ixS (x i : Src)
 | ixA (n k : Nat) (ag : Bool) (x i : Src)
 | ext (x : Src) (i : Nat)
 | len (x : Src)
 | lenS (x : Src)
 | app (k : Nat) (x y : Src)
 | call (f : Nat) (args : List Src) (sh : List (List Sh))
 | callv (f : Src) (args : List Src) (sh : List (List Sh))
 | callM (f : Nat) (args : List Src)
 | callvM (f : Src) (args : List Src)
 | ldI (n : Nat) (ag : Bool) (p : Src)
 | ldU (n : Nat) (ag : Bool) (p : Src)
 | callF (f : Nat) (r : Src) (args : List Src) (sh : List (List Sh))
 | appN (k : Nat) (y : Src)
 | bslI (k : Nat) (z : D) (n : Nat) (parts : List (Nat × Src))
 | rng (x : Src)
 | sW (x : Src)
 | mkB
 deriving Inhabited
structure GI where
 i : aA
 g : Option (Nat × Bool)
 deriving Inhabited
inductive AC where
 | reg (draw : Bool) (ins : List GI) (cm : List (Nat × Nat))
 | seq (a b : AC)
 | cond (c : Src) (a b : AC)
 | block (id : Nat) (a : AC)
 | loop (a : AC)
 | exit (id : Nat)
 | ret
 | skip
 deriving Inhabited
structure zh where
 s : Nat
 mem : Option (Nat × Bool)
 deriving Inhabited
structure aI where
 np : Nat
 ns : Nat
 res : List zh
 rsh : List (List Sh)
 body : AC
 deriving Inhabited
@[go_sem] def D.cells : D → List D
 | .agg cs => cs
 | .any => []
 | .tup _ => []
 | d => [d]
@[go_sem] def D.isBool : D → Bool
 | .bool _ => true
 | _ => false
@[go_sem] def D.isAgg : D → Bool
 | .agg _ => true
 | _ => false
mutual
/-- names no memory of the call's own -/
@[go_sem] def D.aL : D → Bool
 | .agg cs => aH cs
 | .tup cs => aH cs
 | .fn _ cs => aH cs
 | .ptr .. => false
 | .own .. => false
 | .it _ => false
 | _ => true
@[go_sem] def aH : List D → Bool
 | [] => true
 | d :: r => d.aL && aH r
end
mutual
/-- names no memory -/
@[go_sem] def D.de : D → Bool
 | .agg cs => je cs
 | .tup cs => je cs
 | .fn _ cs => je cs
 | .ptr .. => false
 | .own .. => false
 | .it _ => false
 | .sl .. => false
 | .ref .. => false
 | _ => true
@[go_sem] def je : List D → Bool
 | [] => true
 | d :: r => d.de && je r
end
inductive bm where
 | buf (k : Nat) (es : List D)
 | iter (s : List UInt8) (pos : Nat)
 /-- a builder's bytes; a builder: where its bytes are, how many, whether it has been used -/
 | row (s : List UInt8)
 | bld (o : Option Nat) (n : Nat) (u : Bool)
 deriving Inhabited
structure St where
 nx : Nat
 m : List (Nat × bm)
@[go_sem] def look : List (Nat × bm) → Nat → Option bm
 | [], _ => none
 | (a, b) :: r, l => if a = l then some b else look r l
@[go_sem] def cw : List (Nat × bm) → Nat → bm → List (Nat × bm)
 | [], l, b => [(l, b)]
 | (a, x) :: r, l, b => if a = l then (a, b) :: r else (a, x) :: cw r l b
@[go_sem] def cg : List (Nat × bm) → Nat → List (Nat × bm)
 | [], _ => []
 | (a, x) :: r, l => if a = l then cg r l else (a, x) :: cg r l
structure aN where
 ok : Bool
 d : D
@[go_sem] def aN.un : aN := ⟨true, .any⟩
@[go_sem] def Src.ev (env vs : List aN) : Src → aN
 | .s n => env.getD n .un
 | .l p => vs.getD p .un
 | .c d => ⟨true, d⟩
structure Ctx where
 pre : Nat → List D → Prop
 val : Nat → List D → D
 tr : Nat → List D → St → (D → St → Prop) → Prop
 /-- methods that change what their receiver points to: what must hold, the answer, what the receiver points to then -/
 fp : Nat → D → List D → Prop
 fv : Nat → D → List D → D
 fs : Nat → D → List D → D
 /-- the names below this one are the caller's -/
 lo : Nat
@[go_sem] def aE (m : List (Nat × bm)) (l : Nat) : List D := match look m l with
 | some (.buf _ es) => es
 | _ => []
@[go_sem] def dz (m : List (Nat × bm)) (l k n : Nat) : Prop := match look m l with
 | some (.buf k' es) => k = k' ∧ n ≤ es.length
 | _ => False
@[go_sem] def lI (m : List (Nat × bm)) : D → List D
 | .sl _ es => es
 | .own l _ i n => ((aE m l).drop i).take n
 | .str s => s.map fun b => .int .u8 b.toNat
 | _ => []
@[go_sem] def uM (m : List (Nat × bm)) (k : Nat) : D → Prop
 | .sl k' _ => k' = k
 | .own l k' i n => k' = k ∧ dz m l k (i + n)
 | .str _ => k = 1
 | .av => True
 | _ => False
mutual
@[go_sem] def kA (m : List (Nat × bm)) : Sh → D → D
 | .a, d => match d with
  | .av => .sl 0 []
  | d => d
 | .sl k cs, d => match d with
  | .av => .sl k []
  | .own l k' i c => .sl k' ((((aE m l).drop i).take c).map (fL m cs))
  | d => d
 | .pt cs, d => match d with
  | .ptr l k i o => .ref k ((aE m l).map (fL m cs)) i o
  | d => d
@[go_sem] def fL (m : List (Nat × bm)) : List Sh → D → D
 | [], d => d
 | s :: r, d => match d with
  | .agg cs => .agg (kB m (s :: r) cs)
  | d => kA m s d
@[go_sem] def kB (m : List (Nat × bm)) : List Sh → List D → List D
 | [], ds => ds
 | s :: r, ds => match ds with
  | [] => []
  | d :: ds => kA m s d :: kB m r ds
end
mutual
@[go_sem] def hZ (m : List (Nat × bm)) : Sh → D → Prop
 | .a, d => d.aL = true
 | .sl _ cs, d => match d with
  | .own l k' i c => dz m l k' (i + c) ∧ ∀ e ∈ ((aE m l).drop i).take c, ey m cs e
  | d => d.aL = true
 | .pt cs, d => match d with
  | .ptr l k _ _ => dz m l k 0 ∧ ∀ e ∈ aE m l, ey m cs e
  | d => d.aL = true
@[go_sem] def ey (m : List (Nat × bm)) : List Sh → D → Prop
 | [], d => d.aL = true
 | s :: r, d => match d with
  | .agg cs => iB m (s :: r) cs
  | d => hZ m s d
@[go_sem] def iB (m : List (Nat × bm)) : List Sh → List D → Prop
 | [], ds => aH ds = true
 | s :: r, ds => match ds with
  | [] => True
  | d :: ds => hZ m s d ∧ iB m r ds
end
@[go_sem] def j8 (op : BinOp) : D → D → D
 | .int k a, .int _ b => match op with
  | .add => .int k (k.wrap (a + b))
  | .sub => .int k (k.wrap (a - b))
  | .mul => .int k (k.wrap (a * b))
  | .quo => .int k (k.wrap (a.tdiv b))
  | .rem => .int k (a.tmod b)
  | .eql => .bool (a == b) | .neq => .bool (a != b) | .lss => .bool (decide (a < b)) | .leq => .bool (decide (a ≤ b)) | .gtr => .bool (decide (b < a)) | .geq => .bool (decide (b ≤ a))
  | .shl => .int k (k.wrap (a * 2 ^ (min b.toNat k.bits)))
  | .shr => .int k (a.fdiv (2 ^ (min b.toNat k.bits)))
  | .and => .int k (k.wrap (((BitVec.ofInt k.bits a) &&& (BitVec.ofInt k.bits b)).toNat))
  | .or => .int k (k.wrap (((BitVec.ofInt k.bits a) ||| (BitVec.ofInt k.bits b)).toNat))
  | .xor => .int k (k.wrap (((BitVec.ofInt k.bits a) ^^^ (BitVec.ofInt k.bits b)).toNat))
  | .andNot => .int k (k.wrap (((BitVec.ofInt k.bits a) &&& ~~~(BitVec.ofInt k.bits b)).toNat))
 | .str a, .str b => match op with
  | .add => .str (a ++ b)
  | .eql => .bool (a == b) | .neq => .bool (!(a == b)) | .lss => .bool (Op.bytesLess a b) | .geq => .bool (!(Op.bytesLess a b))
  | .leq => .bool (Op.bytesLess a b || a == b) | .gtr => .bool (!(Op.bytesLess a b || a == b))
  | _ => .any
 | _, _ => .any
@[go_sem] def iZ (op : BinOp) : D → D → Prop
 | .int k a, .int k' b => match op with
  | .quo => k = k' ∧ b ≠ 0
  | .rem => k = k' ∧ b ≠ 0
  | .shl => 0 ≤ b
  | .shr => 0 ≤ b
  | _ => k = k'
 | .str a, .str b => match op with
  | .add => a.length + b.length ≤ 9223372036854775807
  | .eql => True | .neq => True | .lss => True | .geq => True | .leq => True | .gtr => True
  | _ => False
 | _, _ => False
@[go_sem] def D.pick (b : Bool) : D → D → D
 | .bool x, .bool y => .bool (bif b then x else y)
 | x, y => bif b then x else y
@[go_sem] def cut (cs : List D) (o n : Nat) (ag : Bool) : D := bif ag then .agg ((cs.drop o).take n) else cs.getD o .any
@[go_sem] def nr (e : D) (k n o : Nat) (ag : Bool) : D := bif (n == k) && (e.isAgg == ag) then e else cut e.cells o n ag
@[go_sem] def wj (m : List (Nat × bm)) (n : Nat) (ag : Bool) : D → D
 | .ptr l k i o => nr ((aE m l).getD i .any) k n o ag
 | .ref k es i o => nr (es.getD i .any) k n o ag
 | _ => .any
@[go_sem] def xg (m : List (Nat × bm)) (n : Nat) : D → Prop
 | .ptr l k i o => dz m l k (i + 1) ∧ o + n ≤ k
 | .ref k es i o => i < es.length ∧ o + n ≤ k
 | _ => False
mutual
@[go_sem] def Fc : D → D → Bool
 | .bool a, .bool b => a == b
 | .int _ a, .int _ b => a == b
 | .str a, .str b => a == b
 | _, _ => false
@[go_sem] def et : List D → List D → Bool
 | [], [] => true
 | a :: r, b :: s => Fc a b && et r s
 | _, _ => false
end
@[go_sem] def CK.fits : CK → D → Prop
 | .b, .bool _ => True
 | .i k, .int k' _ => k' = k
 | .s, .str _ => True
 | _, _ => False
@[go_sem] def dp : List CK → List D → Prop
 | [], [] => True
 | c :: r, d :: s => c.fits d ∧ dp r s
 | _, _ => False
@[go_sem] def over (cs : List D) (o : Nat) (new : List D) : List D := cs.take o ++ (new ++ cs.drop (o + new.length))
@[go_sem] def sJ (e : D) (k n o : Nat) (v : D) : D := bif (n == k) && (v.isAgg || !e.isAgg) then v else .agg (over e.cells o v.cells)
@[go_sem] def rJ (ρ : Src → aN) (cs : List D) : List (Nat × Nat × Src) → List D
 | [] => cs
 | (o, _, s) :: r => rJ ρ (over cs o (ρ s).d.cells) r
@[go_sem] def tC (ρ : Src → aN) (len : Nat) : List (Nat × Nat × Src) → Prop
 | [] => True
 | (o, n, s) :: r => (ρ s).ok = true ∧ (ρ s).d.cells.length = n ∧ o + n ≤ len ∧ tC ρ len r
@[go_sem] def iA (ρ : Src → aN) (es : List D) : List (Nat × Src) → List D
 | [] => es
 | (i, s) :: r => iA ρ (es.set i (ρ s).d) r
@[go_sem] def nS (ρ : Src → aN) (k n : Nat) : List (Nat × Src) → Prop
 | [] => True
 | (i, s) :: r => i < n ∧ (ρ s).ok = true ∧ (ρ s).d.cells.length = k ∧ nS ρ k n r
@[go_sem] def D.nat : D → Nat
 | .int _ n => n.toNat
 | _ => 0
@[go_sem] def cT (o : Option D) (dflt : Nat) : Nat := match o with
 | some (.int _ n) => n.toNat
 | _ => dflt
@[go_sem] def lG (o : Option D) (hi : Nat) : Prop := match o with
 | none => True
 | some (.int _ n) => 0 ≤ n ∧ n ≤ hi
 | _ => False
@[go_sem] def Bp (ρ : Src → aN) : Option Src → Prop
 | none => True
 | some s => (ρ s).ok = true
@[go_sem] def dO (ρ : Src → aN) : Option Src → Option D
 | none => none
 | some s => some (ρ s).d
@[go_sem] def rb (ρ : Src → aN) : List Src → Prop
 | [] => True
 | s :: r => (ρ s).ok = true ∧ rb ρ r
@[go_sem] def eB (ρ : Src → aN) : List Src → List D
 | [] => []
 | s :: r => (ρ s).d :: eB ρ r
@[go_sem] def D.u8 : D → UInt8
 | .int _ n => UInt8.ofNat n.toNat
 | _ => 0
@[go_sem] def D.zH : D → Prop
 | .int k n => k = .u8 ∧ 0 ≤ n ∧ n < 256
 | _ => False
def pz (s : List UInt8) (pos : Nat) : Nat × Nat := Utf8.decode ⟨⟨s⟩⟩ pos
def B0 (n : Int) : List UInt8 := (Utf8.encode n).data.toList
@[go_sem] def dD (m : List (Nat × bm)) : List (List Sh) → List D → List D
 | _, [] => []
 | [], d :: r => fL m [.a] d :: dD m [] r
 | s :: ss, d :: r => fL m s d :: dD m ss r
@[go_sem] def fG (m : List (Nat × bm)) : List (List Sh) → List D → Prop
 | _, [] => True
 | [], d :: r => ey m [.a] d ∧ fG m [] r
 | s :: ss, d :: r => ey m s d ∧ fG m ss r
@[go_sem] def aA.val (Γ : Ctx) (ρ : Src → aN) (m : List (Nat × bm)) (L : Nat) : aA → D
 | .mv x => (ρ x).d
 | .pick c a b => match (ρ c).d with | .bool t => D.pick t (ρ a).d (ρ b).d | _ => .any
 | .box k _ => .ptr L k 0 0
 | .build z ps => .agg (rJ ρ z ps)
 | .bsl k _ n _ => .own L k 0 n
 | .ld n ag p => wj m n ag (ρ p).d
 | .st _ _ _ => .any
 | .nilck x => (ρ x).d
 | .bin op x y => j8 op (ρ x).d (ρ y).d
 | .eqA neg _ _ x y => .bool (bif neg then !(et (ρ x).d.cells (ρ y).d.cells) else et (ρ x).d.cells (ρ y).d.cells)
 | .un op x => match op, (ρ x).d with
  | .not, .bool b => .bool (!b)
  | .neg, .int k n => .int k (k.wrap (0 - n))
  | _, _ => .any
 | .cvi k x => match (ρ x).d with | .int _ n => .int k (k.wrap n) | _ => .any
 | .s2b x => match (ρ x).d with | .str s => .own L 1 0 s.length | _ => .any
 | .b2s x => .str ((lI m (ρ x).d).map D.u8)
 | .i2s x => match (ρ x).d with | .int _ n => .str (B0 n) | _ => .any
 | .mkf f caps => .fn f (eB ρ caps)
 | .mks k _ ln _ => .own L k 0 (ρ ln).d.nat
 | .slS x lo hi => match (ρ x).d with
  | .str s => .str ((s.take (cT (dO ρ hi) s.length)).drop (cT (dO ρ lo) 0))
  | _ => .any
 | .slA _ x lo hi => match (ρ x).d with
  | .sl k es => .sl k ((es.take (cT (dO ρ hi) es.length)).drop (cT (dO ρ lo) 0))
  | .own l k i n => .own l k (i + cT (dO ρ lo) 0) (cT (dO ρ hi) n - cT (dO ρ lo) 0)
  | .av => .av
  | _ => .any
 | .slX _ x hi _ => match (ρ x).d, (ρ hi).d with
  | .sl k es, .int _ h => .sl k (es.take h.toNat)
  | .own l k i _, .int _ h => .own l k i h.toNat
  | .av, _ => .av
  | _, _ => .any
 | .fa off p => match (ρ p).d with
  | .ptr l k i o => .ptr l k i (o + off)
  | .ref k es i o => .ref k es i (o + off)
  | _ => .any
 | .fld off n ag x => cut (ρ x).d.cells off n ag
 | .ia _ x i => match (ρ x).d, (ρ i).d with
  | .sl k es, .int _ n => .ref k es n.toNat 0
  | .own l k j _, .int _ n => .ptr l k (j + n.toNat) 0
  | _, _ => .any
 | .iaP _ k x i => match (ρ x).d, (ρ i).d with
  | .ptr l k' j o, .int _ n => .ptr l k' j (o + n.toNat * k)
  | .ref k' es j o, .int _ n => .ref k' es j (o + n.toNat * k)
  | _, _ => .any
 | .ixS x i => match (ρ x).d, (ρ i).d with
  | .str s, .int _ n => .int .u8 (s.getD n.toNat 0).toNat
  | _, _ => .any
 | .ixA _ k ag x i => match (ρ i).d with
  | .int _ n => cut (ρ x).d.cells (n.toNat * k) k ag
  | _ => .any
 | .ext x i => match (ρ x).d with | .tup ds => ds.getD i .any | _ => .any
 | .len x => match (ρ x).d with
  | .sl _ es => .int .i64 es.length
  | .own _ _ _ n => .int .i64 n
  | .av => .int .i64 0
  | _ => .any
 | .lenS x => match (ρ x).d with
  | .str s => .int .i64 s.length
  | _ => .any
 | .app k x y => match (ρ x).d with
  | .own _ _ _ n => .own L k 0 (n + (lI m (ρ y).d).length)
  | _ => .own L k 0 (lI m (ρ y).d).length
 | .call f args sh => Γ.val f (dD m sh (eB ρ args))
 | .callv f args sh => match (ρ f).d with
  | .fn n caps => Γ.val n (dD m sh (eB ρ args ++ caps))
  | _ => .any
 | .callM _ _ => .any
 | .callvM _ _ => .any
 | .ldU n ag p => wj m n ag (ρ p).d
 | .ldI n ag p => match (ρ p).d with
  | .ref k es i o => nr (es.getD i .any) k n o ag
  | _ => .any
 | .appN k y => .own L k 0 (lI m (ρ y).d).length
 | .bslI k z n ps => .sl k (iA ρ (List.replicate n z) ps)
 | .callF f r args sh => match (ρ r).d with
  | .ptr l _ _ _ => Γ.fv f ((aE m l).getD 0 .any) (dD [] sh (eB ρ args))
  | _ => .any
 | .rng _ => .it L
 | .mkB => .ptr L 2 0 0
 | .sW x => match (ρ x).d with
  | .it l => match look m l with
   | some (.iter s pos) => bif decide (pos < s.length) then .tup [.bool true, .int .i64 pos, .int .i32 (pz s pos).1] else .tup [.bool false]
   | _ => .any
  | _ => .any
@[go_sem] def nL (args : List D) (r : D) : Bool := aH args || r.de
@[go_sem] def aA.cV (Γ : Ctx) (ρ : Src → aN) (m : List (Nat × bm)) : aA → Prop
 | .mv x => (ρ x).ok = true
 | .pick c a b => (ρ c).ok = true ∧ match (ρ c).d with
  | .bool t => (t = true → (ρ a).ok = true) ∧ (t = false → (ρ b).ok = true)
  | _ => False
 | .box k x => (ρ x).ok = true ∧ (ρ x).d.cells.length = k
 | .build z ps => tC ρ z.length ps
 | .bsl k z n ps => z.cells.length = k ∧ nS ρ k n ps
 | .ld n _ p => (ρ p).ok = true ∧ xg m n (ρ p).d
 | .st n p v => (ρ p).ok = true ∧ (ρ v).ok = true ∧ (ρ v).d.cells.length = n ∧ match (ρ p).d with
  | .ptr l k i o => dz m l k (i + 1) ∧ o + n ≤ k
  | _ => False
 | .nilck x => (ρ x).ok = true ∧ match (ρ x).d with | .ptr .. => True | .ref .. => True | _ => False
 | .bin op x y => (ρ x).ok = true ∧ (ρ y).ok = true ∧ iZ op (ρ x).d (ρ y).d
 | .eqA _ ag ks x y => (ρ x).ok = true ∧ (ρ y).ok = true ∧ (ρ x).d.isAgg = ag ∧ (ρ y).d.isAgg = ag ∧ dp ks (ρ x).d.cells ∧ dp ks (ρ y).d.cells
 | .un op x => (ρ x).ok = true ∧ match op, (ρ x).d with
  | .not, .bool _ => True
  | .neg, .int _ _ => True
  | _, _ => False
 | .cvi _ x => (ρ x).ok = true ∧ match (ρ x).d with | .int _ _ => True | _ => False
 | .s2b x => (ρ x).ok = true ∧ match (ρ x).d with | .str _ => True | _ => False
 | .b2s x => (ρ x).ok = true ∧ (match (ρ x).d with | .str _ => False | _ => True) ∧ uM m 1 (ρ x).d ∧ ∀ e ∈ lI m (ρ x).d, e.zH
 | .i2s x => (ρ x).ok = true ∧ match (ρ x).d with | .int _ _ => True | _ => False
 | .mkf _ caps => rb ρ caps
 | .mks k z ln cp => (ρ ln).ok = true ∧ (ρ cp).ok = true ∧ z.cells.length = k ∧ match (ρ ln).d, (ρ cp).d with
  | .int _ n, .int _ c => 0 ≤ n ∧ n ≤ c ∧ c ≤ 1073741824
  | _, _ => False
 | .slS x lo hi => (ρ x).ok = true ∧ Bp ρ lo ∧ Bp ρ hi ∧ match (ρ x).d with
  | .str s => lG (dO ρ hi) s.length ∧ lG (dO ρ lo) (cT (dO ρ hi) s.length)
  | _ => False
 | .slA k x lo hi => (ρ x).ok = true ∧ Bp ρ lo ∧ Bp ρ hi ∧ match (ρ x).d with
  | .sl k' es => k' = k ∧ lG (dO ρ hi) es.length ∧ lG (dO ρ lo) (cT (dO ρ hi) es.length)
  | .own _ k' _ n => k' = k ∧ lG (dO ρ hi) n ∧ lG (dO ρ lo) (cT (dO ρ hi) n)
  | .av => lG (dO ρ hi) 0 ∧ lG (dO ρ lo) 0
  | _ => False
 | .slX k x hi mx => (ρ x).ok = true ∧ (ρ hi).ok = true ∧ (ρ mx).ok = true ∧ match (ρ hi).d, (ρ mx).d with
  | .int _ h, .int _ m => 0 ≤ h ∧ h ≤ m ∧ (match (ρ x).d with
    | .sl k' es => k' = k ∧ m ≤ es.length
    | .own _ k' _ n => k' = k ∧ m ≤ n
    | .av => m = 0
    | _ => False)
  | _, _ => False
 | .fa off p => (ρ p).ok = true ∧ match (ρ p).d with | .ptr .. => True | .ref .. => True | _ => False
 | .fld off n ag x => (ρ x).ok = true ∧ match (ρ x).d with | .agg cs => off + n ≤ cs.length ∧ (ag = false → n = 1) | _ => False
 | .ia k x i => (ρ x).ok = true ∧ (ρ i).ok = true ∧ match (ρ x).d, (ρ i).d with
  | .sl k' es, .int _ n => k' = k ∧ 0 ≤ n ∧ n < es.length
  | .own _ k' _ c, .int _ n => k' = k ∧ 0 ≤ n ∧ n < c
  | _, _ => False
 | .iaP n k x i => (ρ x).ok = true ∧ (ρ i).ok = true ∧ match (ρ x).d, (ρ i).d with
  | .ptr .., .int _ c => 0 ≤ c ∧ c < n
  | .ref .., .int _ c => 0 ≤ c ∧ c < n
  | _, _ => False
 | .ixS x i => (ρ x).ok = true ∧ (ρ i).ok = true ∧ match (ρ x).d, (ρ i).d with
  | .str s, .int _ n => 0 ≤ n ∧ n < s.length
  | _, _ => False
 | .ixA n k ag x i => (ρ x).ok = true ∧ (ρ i).ok = true ∧ (ag = false → k = 1) ∧ match (ρ x).d, (ρ i).d with
  | .agg cs, .int _ c => 0 ≤ c ∧ c < n ∧ cs.length = n * k
  | _, _ => False
 | .ext x i => (ρ x).ok = true ∧ match (ρ x).d with | .tup ds => i < ds.length | _ => False
 | .len x => (ρ x).ok = true ∧ match (ρ x).d with | .sl _ _ => True | .own .. => True | .av => True | _ => False
 | .lenS x => (ρ x).ok = true ∧ match (ρ x).d with | .str _ => True | _ => False
 | .app k x y => (ρ x).ok = true ∧ (ρ y).ok = true ∧ uM m k (ρ y).d ∧ match (ρ x).d with
  | .own l k' i n => k' = k ∧ dz m l k (i + n) ∧ n + (lI m (ρ y).d).length ≤ 1073741824
  | .av => (lI m (ρ y).d).length ≤ 1073741824
  | _ => False
 | .call f args sh => rb ρ args ∧ fG m sh (eB ρ args) ∧ Γ.pre f (dD m sh (eB ρ args)) ∧ nL (eB ρ args) (Γ.val f (dD m sh (eB ρ args))) = true
 | .callv f args sh => (ρ f).ok = true ∧ rb ρ args ∧ match (ρ f).d with
  | .fn n caps => n < 1000000 ∧ fG m sh (eB ρ args ++ caps) ∧ Γ.pre n (dD m sh (eB ρ args ++ caps)) ∧ nL (eB ρ args ++ caps) (Γ.val n (dD m sh (eB ρ args ++ caps))) = true
  | _ => False
 | .callM _ args => rb ρ args
 | .callvM _ args => rb ρ args
 | .ldU n _ p => (ρ p).ok = true ∧ match (ρ p).d with
  | .ptr l k i o => (dz m l k (i + 1) ∧ o + n ≤ k) ∧ aH (aE m l) = false
  | .ref k es i o => i < es.length ∧ o + n ≤ k
  | _ => False
 | .ldI n _ p => (ρ p).ok = true ∧ match (ρ p).d with
  | .ref k es i o => i < es.length ∧ o + n ≤ k
  | _ => False
 | .appN k y => (ρ y).ok = true ∧ uM m k (ρ y).d ∧ (lI m (ρ y).d).length ≤ 1073741824
 | .bslI k z n ps => z.cells.length = k ∧ nS ρ k n ps ∧ aH (iA ρ (List.replicate n z) ps) = true
 | .callF f r args sh => (ρ r).ok = true ∧ rb ρ args ∧ aH (eB ρ args) = true ∧ match (ρ r).d with
  | .ptr l k i o => i = 0 ∧ o = 0 ∧ dz m l k 1 ∧ (aE m l).length = 1 ∧ ((aE m l).getD 0 .any).aL = true ∧ Γ.fp f ((aE m l).getD 0 .any) (dD [] sh (eB ρ args))
  | _ => False
 | .rng x => (ρ x).ok = true ∧ match (ρ x).d with | .str _ => True | _ => False
 | .mkB => True
 | .sW x => (ρ x).ok = true ∧ match (ρ x).d with
  | .it l => match look m l with
   | some (.iter _ _) => True
   | _ => False
  | _ => False
@[go_sem] def Src.A8 : Src → Bool
 | .s _ => true
 | _ => false
@[go_sem] def aA.xo (draw : Bool) (ρ : Src → aN) : aA → Prop
 | .len x => bif draw && !x.A8 then True else (ρ x).ok = true → match (ρ x).d with
  | .sl _ es => es.length ≤ 9223372036854775807
  | .own _ _ _ n => n ≤ 9223372036854775807
  | _ => True
 | .lenS x => bif draw && !x.A8 then True else (ρ x).ok = true → match (ρ x).d with
  | .str s => s.length ≤ 9223372036854775807
  | _ => True
 | _ => True
@[go_sem] def aA.bM (Γ : Ctx) (ρ : Src → aN) (m : List (Nat × bm)) (L : Nat) : aA → List (Nat × bm)
 | .box k x => cw m L (.buf k [(ρ x).d])
 | .bsl k z n ps => cw m L (.buf k (iA ρ (List.replicate n z) ps))
 | .mks k z ln _ => cw m L (.buf k (List.replicate (ρ ln).d.nat z))
 | .s2b x => match (ρ x).d with
  | .str s => cw m L (.buf 1 (s.map fun b => .int .u8 b.toNat))
  | _ => m
 | .st n p v => match (ρ p).d with
  | .ptr l k i o => cw m l (.buf k ((aE m l).set i (sJ ((aE m l).getD i .any) k n o (ρ v).d)))
  | _ => m
 | .app k x y => match (ρ x).d with
  | .own l k' i n => cw (cg m l) L (.buf k ((((aE m l).drop i).take n) ++ lI m (ρ y).d))
  | _ => cw m L (.buf k (lI m (ρ y).d))
 | .appN k y => cw m L (.buf k (lI m (ρ y).d))
 | .callF f r args sh => match (ρ r).d with
  | .ptr l k _ _ => cw m l (.buf k [Γ.fs f ((aE m l).getD 0 .any) (dD [] sh (eB ρ args))])
  | _ => m
 | .rng x => match (ρ x).d with
  | .str s => cw m L (.iter s 0)
  | _ => m
 | .mkB => cw m L (.bld none 0 false)
 | .sW x => match (ρ x).d with
  | .it l => match look m l with
   | some (.iter s pos) => bif decide (pos < s.length) then cw m l (.iter s (pos + (pz s pos).2)) else m
   | _ => m
  | _ => m
 | _ => m
@[go_sem] def bW : D → List Nat
 | .ptr l _ _ _ => [l]
 | .own l _ _ _ => [l]
 | .it l => [l]
 | _ => []
@[go_sem] def aA.ki (ρ : Src → aN) : aA → Option (List Nat)
 | .ld _ _ p => some (bW (ρ p).d)
 | .ldU _ _ p => some (bW (ρ p).d)
 | .st _ p _ => some (bW (ρ p).d)
 | .b2s x => some (bW (ρ x).d)
 | .app _ x y => some (bW (ρ x).d ++ bW (ρ y).d)
 | .sW x => some (bW (ρ x).d)
 | .call _ args _ => bif aH (eB ρ args) then some [] else none
 | .callv f args _ => match (ρ f).d with
  | .fn _ caps => bif aH (eB ρ args ++ caps) then some [] else none
  | _ => none
 | .callM _ _ => none
 | .callvM _ _ => none
 | .callF _ r _ _ => some (bW (ρ r).d)
 | .appN _ y => some (bW (ρ y).d)
 | _ => some []
@[go_sem] def aA.wr (ρ : Src → aN) (L : Nat) : aA → List Nat
 | .box .. => [L]
 | .bsl .. => [L]
 | .mks .. => [L]
 | .s2b _ => [L]
 | .rng _ => [L]
 | .mkB => [L]
 | .st _ p _ => bW (ρ p).d
 | .app _ x _ => L :: bW (ρ x).d
 | .sW x => bW (ρ x).d
 | .callF _ r _ _ => bW (ρ r).d
 | .appN .. => [L]
 | _ => []
@[go_sem] def aA.calm : aA → Bool
 | .st .. => false
 | .app .. => false
 | .sW .. => false
 | .callM .. => false
 | .callvM .. => false
 | .callF .. => false
 | _ => true
@[go_sem] def flag (vs : List aN) : Option (Nat × Bool) → Bool
 | none => true
 | some (j, w) => (vs.getD j .un).ok && match (vs.getD j .un).d with
  | .bool b => b == w
  | _ => false
@[go_sem] def A0 (vs : List aN) (i : aA) : Option (Nat × Bool) → Prop
 | none => True
 | some (j, _) => i.calm = true ∧ ((vs.getD j .un).ok = true → (vs.getD j .un).d.isBool = true)
@[go_sem] def aA.qh (draw : Bool) (g : Option (Nat × Bool)) (i : aA) : Bool := !draw && (!i.calm && g.isSome)
@[go_sem] def wc (vs : List aN) : Option (Nat × Bool) → Prop
 | none => True
 | some (j, _) => (vs.getD j .un).ok = true → (vs.getD j .un).d.isBool = true
@[go_sem] def uG (n : Nat) : Nat := if n < 1000000 then n else n - 1000000
@[go_sem] def sZ (n : Nat) (as caps : List D) : List D := if n < 1000000 then as ++ caps else caps ++ as
def eX (Γ : Ctx) (draw : Bool) : List GI → (env vs : List aN) → St → (List aN → St → Prop) → Prop
 | [], _, vs, st, K => K vs { st with nx := st.nx + vs.length }
 | ⟨.callM f args, g⟩ :: r, env, vs, st, K =>
  wc vs g ∧ (flag vs g = true → rb (Src.ev env vs) args ∧
   Γ.tr f (eB (Src.ev env vs) args) { st with nx := st.nx + vs.length } fun d st' => st.nx + vs.length ≤ st'.nx ∧ eX Γ draw r env (vs ++ [⟨true, d⟩]) { st' with nx := st'.nx - vs.length } K) ∧
   (flag vs g = false → eX Γ draw r env (vs ++ [⟨false, .any⟩]) st K)
 | ⟨.callvM f args, g⟩ :: r, env, vs, st, K =>
  A0 vs (.callvM f args) g ∧ (Src.ev env vs f).ok = true ∧ rb (Src.ev env vs) args ∧ match (Src.ev env vs f).d with
   | .fn n caps => Γ.tr (uG n) (sZ n (eB (Src.ev env vs) args) caps) { st with nx := st.nx + vs.length } fun d st' => st.nx + vs.length ≤ st'.nx ∧ eX Γ draw r env (vs ++ [⟨true, d⟩]) { st' with nx := st'.nx - vs.length } K
   | _ => False
 | ⟨i, g⟩ :: r, env, vs, st, K =>
  if i.qh draw g = true then
   wc vs g ∧ (flag vs g = true → i.cV Γ (Src.ev env vs) st.m ∧
     eX Γ draw r env (vs ++ [⟨true, i.val Γ (Src.ev env vs) st.m (st.nx + vs.length)⟩]) { st with m := i.bM Γ (Src.ev env vs) st.m (st.nx + vs.length) } K) ∧
    (flag vs g = false → eX Γ draw r env (vs ++ [⟨false, .any⟩]) st K)
  else
  A0 vs i g ∧ (flag vs g = true → i.cV Γ (Src.ev env vs) st.m) ∧
   ((flag vs g = true → i.xo draw (Src.ev env vs)) → ∃ d, (flag vs g = true → i.val Γ (Src.ev env vs) st.m (st.nx + vs.length) = d) ∧
     eX Γ draw r env (vs ++ [⟨flag vs g, d⟩]) { st with m := i.bM Γ (Src.ev env vs) st.m (st.nx + vs.length) } K)
mutual
@[go_sem] def gI (l k : Nat) (es : List D) : D → D
 | .own l' k' i n => if l' = l ∧ k' = k ∧ i + n ≤ es.length then .sl k ((es.drop i).take n) else .own l' k' i n
 | .ptr l' k' i o => if l' = l ∧ k' = k then .ref k es i o else .ptr l' k' i o
 | .agg cs => .agg (kL l k es cs)
 | .tup cs => .tup (kL l k es cs)
 | .fn f cs => .fn f (kL l k es cs)
 | .any => .any
 | .bool b => .bool b
 | .int k n => .int k n
 | .str s => .str s
 | .av => .av
 | .sl k es => .sl k es
 | .ref k es i o => .ref k es i o
 | .nilp => .nilp
 | .nilf => .nilf
 | .it l => .it l
@[go_sem] def kL (l k : Nat) (es : List D) : List D → List D
 | [] => []
 | d :: r => gI l k es d :: kL l k es r
end
@[go_sem] def oI (l k : Nat) (es : List D) : bm → bm
 | .buf k' es' => .buf k' (kL l k es es')
 | b => b
@[go_sem] def nn (l k : Nat) (es : List D) : List (Nat × bm) → List (Nat × bm)
 | [] => []
 | (a, b) :: r => (a, oI l k es b) :: nn l k es r
@[go_sem] def lM (l k : Nat) (es : List D) : List aN → List aN
 | [] => []
 | ⟨ok, d⟩ :: r => ⟨ok, gI l k es d⟩ :: lM l k es r
@[go_sem] def As (l : Nat) (s : List aN × List (Nat × bm)) : List aN × List (Nat × bm) := match look s.2 l with
 | some (.buf k es) => bif aH es then (lM l k es s.1, nn l k es (cg s.2 l)) else s
 | _ => s
@[go_sem] def frzs : List Nat → List aN × List (Nat × bm) → List aN × List (Nat × bm)
 | [], s => s
 | l :: r, s => frzs r (As l s)
inductive Ex where
 | normal | exit (id : Nat) | ret
@[go_sem] def er (env vs : List aN) : List (Nat × Nat) → List aN
 | [] => env
 | (s, p) :: r => er (env.set s (vs.getD p .un)) vs r
@[go_sem] def kn (lo : Nat) (σ : List (Nat × Nat)) (l : Nat) : Option Nat := match σ with
 | [] => bif Nat.blt l lo then some l else none
 | (a, b) :: r => bif Nat.beq a l then some b else kn lo r l
@[go_sem] def BZ (lo : Nat) (σ : List (Nat × Nat)) (l : Nat) (f : Nat → D) : Option D := match kn lo σ l with
 | some l' => some (f l')
 | none => none
mutual
@[go_sem] def qI (lo : Nat) (σ : List (Nat × Nat)) : D → Option D
 | .own l k i n => BZ lo σ l fun l => .own l k i n
 | .ptr l k i o => BZ lo σ l fun l => .ptr l k i o
 | .it l => BZ lo σ l fun l => .it l
 | .agg cs => match oW lo σ cs with
  | some cs => some (.agg cs)
  | none => none
 | .tup cs => match oW lo σ cs with
  | some cs => some (.tup cs)
  | none => none
 | .fn f cs => match oW lo σ cs with
  | some cs => some (.fn f cs)
  | none => none
 | .any => some .any
 | .bool b => some (.bool b)
 | .int k n => some (.int k n)
 | .str s => some (.str s)
 | .av => some .av
 | .sl k es => some (.sl k es)
 | .ref k es i o => some (.ref k es i o)
 | .nilp => some .nilp
 | .nilf => some .nilf
@[go_sem] def oW (lo : Nat) (σ : List (Nat × Nat)) : List D → Option (List D)
 | [] => some []
 | d :: r => match qI lo σ d, oW lo σ r with
  | some d, some r => some (d :: r)
  | _, _ => none
end
mutual
/-- nil slices, taken as the call's own -/
def pj : D → D → Prop
 | .av, d' => d' = .av ∨ ∃ l k i, d' = .own l k i 0
 | .agg a, d' => ∃ b, d' = .agg b ∧ xj a b
 | d, d' => d' = d ∧ d.aL = true
def xj : List D → List D → Prop
 | [], b => b = []
 | d :: r, b => ∃ d' r', b = d' :: r' ∧ pj d d' ∧ xj r r'
end
def Ck (lo : Nat) (σ : List (Nat × Nat)) (d d' : D) : Prop := d' = d ∧ d.aL = true ∨ qI lo σ d = some d' ∨ pj d d'
def nw (lo : Nat) (σ : List (Nat × Nat)) : bm → bm → Prop
 | .buf k es, .buf k' es' => k' = k ∧ (es' = es ∧ aH es = true ∨ oW lo σ es = some es' ∨ xj es es')
 | .iter s p, .iter s' p' => s' = s ∧ p' = p
 | .row s, .row s' => s' = s
 | .bld o n u, .bld o' n' u' => (match o with
  | none => o' = none
  | some l => ∃ l', kn lo σ l = some l' ∧ o' = some l') ∧ n' = n ∧ u' = u
 | _, _ => False
def fE (lo : Nat) (σ : List (Nat × Nat)) : List aN → List aN → Prop
 | [], [] => True
 | a :: r, b :: s => (b.ok = a.ok ∧ Ck lo σ a.d b.d ∨ b = .un) ∧ fE lo σ r s
 | _, _ => False
def aV (lo c : Nat) (σ : List (Nat × Nat)) (m : List (Nat × bm)) : List (Nat × bm) → Prop
 | [] => True
 | (l', b') :: r => ((∃ l b, kn lo σ l = some l' ∧ look m l = some b ∧ nw lo σ b b') ∨ (Nat.ble lo l' = true ∧ Nat.blt l' c = true ∧ σ.all (fun p => !Nat.beq p.2 l') = true ∧ ∃ k, b' = .buf k [])) ∧ aV lo c σ m r
def eQ (lo c : Nat) : List (Nat × Nat) → Bool
 | [] => Nat.ble lo c
 | (a, b) :: r => (Nat.ble lo b && (Nat.blt b c && (r.all (fun p => !Nat.beq p.1 a && !Nat.beq p.2 b) && eQ lo c r)))
@[go_sem] def Fk : List aN → List aN → Prop
 | [], [] => True
 | a :: r, b :: s => (b = a ∨ b = .un) ∧ Fk r s
 | _, _ => False
@[go_sem] def B1 (m : List (Nat × bm)) : List (Nat × bm) → Prop
 | [] => True
 | (l, b) :: r => look m l = some b ∧ B1 m r
inductive qN : D → D → Prop
 | refl (d : D) : qN d d
 | nil (k : Nat) : qN .av (.sl k [])
 | agg (a b : List D) (hl : b.length = a.length) (h : ∀ i, qN (a.getD i .any) (b.getD i .any)) : qN (.agg a) (.agg b)
 | sl (k : Nat) (a b : List D) (hl : b.length = a.length) (h : ∀ i, qN (a.getD i .any) (b.getD i .any)) : qN (.sl k a) (.sl k b)
def yr (a b : List D) : Prop := b.length = a.length ∧ ∀ i, qN (a.getD i .any) (b.getD i .any)
def FY : bm → bm → Prop
 | .buf k es, .buf k' es' => k' = k ∧ yr es es'
 | b, b' => b' = b
def Ea : List aN → List aN → Prop
 | [], [] => True
 | a :: r, b :: s => (b.ok = a.ok ∧ qN a.d b.d) ∧ Ea r s
 | _, _ => False
def zm (m : List (Nat × bm)) : List (Nat × bm) → Prop
 | [] => True
 | (l, b') :: r => (∃ b, look m l = some b ∧ FY b b') ∧ zm m r
inductive az (lo : Nat) : List aN → St → List aN → St → Prop
 | refl (env : List aN) (st : St) : az lo env st env st
 | As (l : Nat) (env : List aN) (st : St) : az lo env st (As l (env, st.m)).1 ⟨st.nx, (As l (env, st.m)).2⟩
 | ren (σ : List (Nat × Nat)) (c : Nat) (env env' : List aN) (nx : Nat) (m m' : List (Nat × bm)) (h : eQ lo c σ = true) (he : fE lo σ env env') (hm : aV lo c σ m m') : az lo env ⟨nx, m⟩ env' ⟨c, m'⟩
 | wk (env env' : List aN) (nx : Nat) (m m' : List (Nat × bm)) (he : Fk env env') (hm : B1 m m') : az lo env ⟨nx, m⟩ env' ⟨nx, m'⟩
 | nz (env env' : List aN) (nx : Nat) (m m' : List (Nat × bm)) (he : Ea env env') (hm : zm m m') : az lo env ⟨nx, m⟩ env' ⟨nx, m'⟩
 | trans (env1 env2 env3 : List aN) (st1 st2 st3 : St) (h : az lo env1 st1 env2 st2) (h' : az lo env2 st2 env3 st3) : az lo env1 st1 env3 st3
def Gh (lo : Nat) (p : List aN → St → Prop) (env : List aN) (st : St) : Prop := ∃ env' st', az lo env st env' st' ∧ p env' st'
def bo (Γ : Ctx) : AC → (Ex → List aN → St → Prop) → List aN → St → Prop
 | .reg draw ins cm, Q => Gh Γ.lo fun env st => eX Γ draw ins env [] st fun vs st' => Q .normal (er env vs cm) st'
 | .seq a b, Q => Gh Γ.lo (bo Γ a (fun e env st => match e with
   | .normal => bo Γ b Q env st
   | e => Q e env st))
 | .cond c a b, Q => Gh Γ.lo fun env st => (c.ev env []).ok = true ∧ match (c.ev env []).d with
  | .bool t => (t = true → bo Γ a Q env st) ∧ (t = false → bo Γ b Q env st)
  | _ => False
 | .block id a, Q => Gh Γ.lo (bo Γ a (fun e env st => match e with
   | .exit j => if j = id then Q .normal env st else Q (.exit j) env st
   | e => Q e env st))
 | .loop a, Q => Gh Γ.lo fun env st => ∃ (I : List aN → St → Prop) (μ : List aN → St → Nat),
   I env st ∧ ∀ env st, I env st →
   bo Γ a (fun e env' st' => match e with
    | .normal => ∃ env2 st2, az Γ.lo env' st' env2 st2 ∧ I env2 st2 ∧ μ env2 st2 < μ env st
    | e => Q e env' st') env st
 | .exit id, Q => Gh Γ.lo (Q (.exit id))
 | .ret, Q => Gh Γ.lo (Q .ret)
 | .skip, Q => Gh Γ.lo (Q .normal)
def Ctx.at (Γ : Ctx) (n : Nat) : Ctx := { Γ with lo := n }
@[go_sem] def wO (m : List (Nat × bm)) (env : List aN) (r : zh) : D := match r.mem with
 | none => (env.getD r.s .un).d
 | some (n, ag) => wj m n ag (env.getD r.s .un).d
@[go_sem] def n4 (m : List (Nat × bm)) (env : List aN) : List zh → Prop
 | [] => True
 | r :: rs => (env.getD r.s .un).ok = true ∧ (match r.mem with
   | none => True
   | some (n, _) => xg m n (env.getD r.s .un).d) ∧ n4 m env rs
@[go_sem] def lK (m : List (Nat × bm)) (env : List aN) : List zh → List D
 | [] => []
 | r :: rs => wO m env r :: lK m env rs
@[go_sem] def gO (a : aI) (env : List aN) (st : St) : D := match a.res with
 | [r] => wO st.m env r
 | rs => .tup (lK st.m env rs)
@[go_sem] def DL (a : aI) (env : List aN) (st : St) : D := match a.res with
 | [r] => fL st.m (a.rsh.getD 0 []) (wO st.m env r)
 | rs => .tup (dD st.m a.rsh (lK st.m env rs))
@[go_sem] def yY (a : aI) (env : List aN) (st : St) : Prop := match a.res with
 | [r] => ey st.m (a.rsh.getD 0 []) (wO st.m env r)
 | rs => fG st.m a.rsh (lK st.m env rs)
@[go_sem] def Ex.home : Ex → Prop
 | .exit _ => False
 | _ => True
@[go_sem] def bF (a : aI) (ds : List D) : List aN := (ds.map fun d => ⟨true, d⟩) ++ List.replicate (a.ns - a.np) .un
mutual
def c9 : Value → Option D
 | .bool b => some (.bool b)
 | .int k n => some (.int k n)
 | .string s => if s.size ≤ 9223372036854775807 then some (.str s.data.toList) else none
 | .pointer none => some .nilp
 | .slice none 0 0 => some .av
 | .nilFunc => some .nilf
 | .agg ⟨cs⟩ => if ow cs then (mH cs).map .agg else none
 | _ => none
def mH : List Value → Option (List D)
 | [] => some []
 | v :: r => match c9 v, mH r with
  | some d, some ds => some (d :: ds)
  | _, _ => none
def ow : List Value → Bool
 | [] => true
 | v :: r => (match v with
  | .agg _ => false
  | .tuple _ => false
  | _ => true) && ow r
end
def wT (P : Program) : Nat → TypeId → List Sh
 | 0, _ => [.a]
 | d + 1, t => match P.underlying t with
  | some (.struct fs) => (fs.toList.map fun f => wT P d f.type).flatten
  | some (.array n e) => (List.replicate n (wT P d e)).flatten
  | some (.slice e) => [.sl (P.cellsOf e) (wT P d e)]
  | some (.pointer e) => [.pt (wT P d e)]
  | _ => [.a]
structure CC where
 P : Program
 ν : List (Nat × Nat)
 bM : List Nat
 slots : List Nat
 ntmps : Nat
 /-- what is called through a value may change memory -/
 vm : Bool
def qE : List Nat → Nat → Option Nat
 | [], _ => none
 | a :: r, t => if a = t then some 0 else (qE r t).map (· + 1)
def cZ : List (Nat × Nat) → Nat → Option Nat
 | [], _ => none
 | (a, b) :: r, l => if a = l then some b else cZ r l
def posOf (t : Nat) : List (Option Nat) → Option Nat
 | [] => none
 | a :: r => if a = some t then some 0 else (posOf t r).map (· + 1)
def CC.src (C : CC) (defs : List (Option Nat)) : Operand → Option Src
 | .tmp t => match posOf t defs with
  | some p => some (.l p)
  | none => (qE C.slots t).map .s
 | .const v => (c9 v).map .c
 | .func f => (cZ C.ν f).map fun n => .c (.fn n [])
 | .global _ => none
def CC.oa (C : CC) (defs : List (Option Nat)) : List Operand → Option (List Src)
 | [] => some []
 | x :: r => match C.src defs x, C.oa defs r with
  | some a, some l => some (a :: l)
  | _, _ => none
def CC.opt (C : CC) (defs : List (Option Nat)) : Option Operand → Option (Option Src)
 | none => some none
 | some x => (C.src defs x).map some
def bp (P : Program) (t : TypeId) : Bool := match P.underlying t with
 | some (.struct _) => true
 | some (.array ..) => true
 | _ => false
def hX (P : Program) (k : TypeId → Option (List CK)) : Nat → List Field → Option (List CK)
 | _, [] => some []
 | off, f :: r => if f.name = "_" ∨ f.offset ≠ off then none else
  match k f.type, hX P k (off + P.cellsOf f.type) r with
  | some a, some b => if a.length = P.cellsOf f.type ∧ a.length ≠ 0 ∧ (P.underlying f.type).isNone = false then some (a ++ b) else none
  | _, _ => none
def dF (P : Program) : Nat → TypeId → Option (List CK)
 | 0, _ => none
 | d + 1, t => match P.underlying t with
  | some .bool => some [.b]
  | some (.int k) => some [.i k]
  | some .string => some [.s]
  | some (.struct fs) => if P.stoodInHeld t then none else hX P (fun t => dF P d t) 0 fs.toList
  | some (.array n e) => match dF P d e with
   | some l => if l.length = P.cellsOf e ∧ l.length ≠ 0 ∧ (P.underlying e).isNone = false then some (List.replicate n l).flatten else none
   | none => none
  | _ => none
def CC.parts (C : CC) (defs : List (Option Nat)) (place : Nat → Option (Nat × Nat)) : List (Nat × Operand) → Option (List (Nat × Nat × Src))
 | [] => some []
 | (i, x) :: r => match place i, C.src defs x, C.parts defs place r with
  | some (o, n), some s, some l => if n = 0 then none else some ((o, n, s) :: l)
  | _, _, _ => none
def CC.pR (C : CC) (defs : List (Option Nat)) : List (Nat × Operand) → Option (List (Nat × Src))
 | [] => some []
 | (i, x) :: r => match C.src defs x, C.pR defs r with
  | some s, some l => some ((i, s) :: l)
  | _, _ => none
def nF (P : Program) (t : TypeId) : Option D := ((P.info? t).bind (·.zero)).bind c9
def kK (P : Program) (t : TypeId) : Bool := match nF P t with
 | some z => z.cells.length == P.cellsOf t
 | none => false
def CC.op (C : CC) (defs : List (Option Nat)) (o : Oper) : Option aA :=
 match o.op with
 | .move x => (C.src defs x).map .mv
 | .assign x => (C.src defs x).map .mv
 | .pick c a b => match C.src defs c, C.src defs a, C.src defs b with
  | some c, some a, some b => some (.pick c a b)
  | _, _, _ => none
 | .alloc t => match nF C.P t with
  | some z => if C.P.cellsOf t = 0 then none else if C.bM.contains (1000000000 + t) then (match z with
   | .agg [.nilp, .av] => some .mkB
   | _ => none) else some (.box (C.P.cellsOf t) (.c z))
  | none => none
 | .box t x => match C.src defs x with
  | some s => if C.P.cellsOf t = 0 then none else some (.box (C.P.cellsOf t) s)
  | none => none
 | .build t ps => match nF C.P t, C.P.underlying t with
  | some (.agg z), some (.struct fs) => if fs.toList.all (fun f => (C.P.info? f.type).isSome) then (C.parts defs (fun i => (fs[i]?).map fun f => (f.offset, C.P.cellsOf f.type)) ps.toList).map (.build z) else none
  | some (.agg z), some (.array _ e) => if C.P.cellsOf e = 0 then none else (C.parts defs (fun i => some (i * C.P.cellsOf e, C.P.cellsOf e)) ps.toList).map (.build z)
  | _, _ => none
 | .buildSlice t n ps => match C.P.underlying t with
  | some (.slice e) => match nF C.P e, C.pR defs ps.toList with
   | some z, some l => if C.P.cellsOf e = 0 ∨ n * C.P.cellsOf e > 16777216 then none else some (.bsl (C.P.cellsOf e) z n l)
   | _, _ => none
  | _ => none
 | .load t a => match C.src defs a with
  | some s => if C.P.cellsOf t = 0 ∨ (C.P.underlying t).isNone ∨ (bp C.P t = false ∧ C.P.cellsOf t ≠ 1) then none else some (.ld (C.P.cellsOf t) (bp C.P t) s)
  | none => none
 | .store t a x => match C.src defs a, C.src defs x with
  | some a, some x => if C.P.cellsOf t = 0 then none else some (.st (C.P.cellsOf t) a x)
  | _, _ => none
 | .nilCheck x => (C.src defs x).map .nilck
 | .binOp op t x y _ => match C.src defs x, C.src defs y with
  | some a, some b => match C.P.underlying t with
   | some (.int _) => some (.bin op a b)
   | some .string => some (.bin op a b)
   | _ => if C.P.eqGuardType C.P.depth t then none else match dF C.P 30 t, op with
    | some ks, .eql => some (.eqA false (bp C.P t) ks a b)
    | some ks, .neq => some (.eqA true (bp C.P t) ks a b)
    | _, _ => none
  | _, _ => none
 | .unOp op _ x => (C.src defs x).map (.un op)
 | .convert s d x => match C.P.underlying s, C.P.underlying d, C.src defs x with
  | some (.int _), some (.int k), some a => some (.cvi k a)
  | some (.int _), some .string, some a => some (.i2s a)
  | some .string, some (.slice e), some a => match C.P.underlying e with
   | some (.int .u8) => some (.s2b a)
   | _ => none
  | some (.slice e), some .string, some a => match C.P.underlying e with
   | some (.int .u8) => some (.b2s a)
   | _ => none
  | _, _, _ => none
 | .makeFunc (.func f) first caps => match cZ C.ν f, C.oa defs caps.toList with
  | some n, some l => if first.isEmpty then some (.mkf n l) else if l.isEmpty then (C.oa defs first.toList).map (.mkf (n + 1000000)) else none
  | _, _ => none
 | .makeSlice t l c => match C.P.underlying t with
  | some (.slice e) => match nF C.P e, C.src defs l, C.src defs c with
   | some z, some l, some c => if C.P.cellsOf e = 0 ∨ C.P.bytesOf e > 65536 then none else some (.mks (C.P.cellsOf e) z l c)
   | _, _, _ => none
  | _ => none
 | .slice t x lo hi mx => match C.P.underlying t, C.src defs x, C.opt defs lo, C.opt defs hi, mx with
  | some .string, some a, some l, some h, none => some (.slS a l h)
  | some (.slice e), some a, some l, some h, none => if C.P.cellsOf e = 0 then none else some (.slA (C.P.cellsOf e) a l h)
  | some (.slice e), some a, some none, some (some h), some m => match C.src defs m with
   | some m => if C.P.cellsOf e = 0 then none else some (.slX (C.P.cellsOf e) a h m)
   | none => none
  | _, _, _, _, _ => none
 | .fieldAddr t x f => match C.P.underlying t, C.src defs x with
  | some (.struct fs), some a => match fs[f]? with
   | some f => if C.P.cellsOf f.type = 0 then none else some (.fa f.offset a)
   | none => none
  | _, _ => none
 | .field t x f => match C.P.underlying t, C.src defs x with
  | some (.struct fs), some a => match fs[f]? with
   | some f => if C.P.cellsOf f.type = 0 ∨ (C.P.underlying f.type).isNone then none else some (.fld f.offset (C.P.cellsOf f.type) (bp C.P f.type) a)
   | none => none
  | _, _ => none
 | .indexAddr t x i => match C.P.underlying t, C.src defs x, C.src defs i with
  | some (.slice e), some a, some b => if C.P.cellsOf e = 0 then none else some (.ia (C.P.cellsOf e) a b)
  | some (.array n e), some a, some b => if C.P.cellsOf e = 0 then none else some (.iaP n (C.P.cellsOf e) a b)
  | _, _, _ => none
 | .index t x i => match C.P.underlying t, C.src defs x, C.src defs i with
  | some .string, some a, some b => some (.ixS a b)
  | some (.array n e), some a, some b => if C.P.cellsOf e = 0 ∨ (C.P.underlying e).isNone then none else some (.ixA n (C.P.cellsOf e) (bp C.P e) a b)
  | _, _, _ => none
 | .range t x => match C.P.underlying t, C.src defs x with
  | some .string, some a => some (.rng a)
  | _, _ => none
 | .next it true => (C.src defs it).map .sW
 | .extract t i => (C.src defs t).map fun s => .ext s i
 | .call c => match c.callee with
  | .builtin .len => match c.args.toList, c.argTypes.toList with
   | [x], [t] => match C.src defs x, C.P.underlying t with
    | some a, some .string => some (.lenS a)
    | some a, some (.slice _) => some (.len a)
    | _, _ => none
   | _, _ => none
  | .builtin .append => match c.args.toList, c.argTypes.toList with
   | [x, y], [t, u] => match C.src defs x, C.src defs y, C.P.underlying t, C.P.underlying u with
    | some a, some b, some (.slice e), some (.slice _) => if C.P.cellsOf e = 0 ∨ C.P.bytesOf e > 65536 ∨ C.P.bytesOf e = 0 ∨ kK C.P e = false then none else some (.app (C.P.cellsOf e) a b)
    | some a, some b, some (.slice e), some .string => if C.P.cellsOf e = 0 ∨ C.P.bytesOf e > 65536 ∨ C.P.bytesOf e = 0 ∨ kK C.P e = false then none else some (.app (C.P.cellsOf e) a b)
    | _, _, _, _ => none
   | _, _ => none
  | .value (.func f) => match cZ C.ν f, C.oa defs c.args.toList with
   | some n, some l => if C.bM.contains (2 * n) then some (.callM n l) else if C.bM.contains (2 * n + 1) then (match l with
     | r :: rest => some (.callF n r rest ((c.argTypes.toList.map (wT C.P 8)).drop 1))
     | [] => none) else some (.call n l (c.argTypes.toList.map (wT C.P 8)))
   | _, _ => none
  | .value (.tmp t) => match C.src defs (.tmp t), C.oa defs c.args.toList with
   | some s, some l => if C.vm then some (.callvM s l) else some (.callv s l (c.argTypes.toList.map (wT C.P 8)))
   | _, _ => none
  | _ => none
 | _ => none
def CC.guard (defs : List (Option Nat)) : Option (Nat × Bool) → Option (Option (Nat × Bool))
 | none => some none
 | some (j, w) => match defs[j]? with
  | some (some _) => some (some (j, w))
  | _ => none
def CC.ops (C : CC) : (defs : List (Option Nat)) → List Oper → Option (List GI)
 | _, [] => some []
 | defs, o :: r => match C.op defs o, CC.guard defs o.guard, C.ops (defs ++ [o.dst]) r with
  | some i, some g, some l => if o.dst.all (fun d => d < C.ntmps && !defs.contains (some d)) then some (⟨i, g⟩ :: l) else none
  | _, _, _ => none
def CC.ef (C : CC) : Nat → List Oper → List (Nat × Nat)
 | _, [] => []
 | p, o :: r => match o.dst.bind (qE C.slots) with
  | some s => (s, p) :: C.ef (p + 1) r
  | none => C.ef (p + 1) r
def lC (acc : List Nat) : List Edge → Nat
 | [] => 0
 | e :: r => if Region.binds .any e then (2 ^ e.on ||| acc.getD e.on 0) ||| lC acc r else lC acc r
def kp : List Nat → List Oper → List Nat
 | acc, [] => acc
 | acc, o :: r => kp (acc ++ [lC acc o.after.toList]) r
def tmpsOf (ops : List Oper) (o : Oper) : List Nat :=
 (o.op.operands.toList.filterMap fun
   | .tmp t => some t
   | _ => none) ++ (match o.guard with
   | some (g, _) => ((ops[g]?).bind (·.dst)).toList
   | none => [])
def yV (ops : List Oper) (bs : List Nat) : Bool :=
 (List.range ops.length).all fun j => (List.range ops.length).all fun p => match ops[j]?, ops[p]? with
   | some oj, some op => match op.dst with
    | some t => p == j || !(tmpsOf ops oj).contains t || (bs.getD (max j p) 0).testBit (min j p)
    | none => true
   | _, _ => false
def aA.pure : aA → Bool
 | .mv _ => true
 | .pick .. => true
 | .build .. => true
 | .nilck _ => true
 | .bin .. => true
 | .eqA .. => true
 | .un .. => true
 | .cvi .. => true
 | .i2s _ => true
 | .mkf .. => true
 | .slS .. => true
 | .slA .. => true
 | .slX .. => true
 | .fa .. => true
 | .fld .. => true
 | .ia .. => true
 | .iaP .. => true
 | .ixS .. => true
 | .ixA .. => true
 | .ext .. => true
 | .len _ => true
 | .lenS _ => true
 | .ldI .. => true
 | .bslI .. => true
 | _ => false
def Sh.F0 : Sh → Bool
 | .a => true
 | _ => false
def aA.free : aA → Bool
 | .call _ _ sh => sh.all fun s => s.all Sh.F0
 | i => i.pure
def aA.fF : aA → Bool
 | .box .. => true
 | .bsl .. => true
 | .mks .. => true
 | .s2b .. => true
 | .rng .. => true
 | .mkB => true
 | _ => false
def aA.isApp : aA → Bool
 | .app .. => true
 | _ => false
def aA.iJ : aA → Bool
 | .callF .. => true
 | _ => false
def aA.oL : aA → Bool
 | .ldU .. => true
 | _ => false
def exU (l : List GI) (gj gi : aA) (j i : Nat) : Bool := gj.iJ && (gi.oL && (decide (i < j) && (List.range j).all fun q => decide (q ≤ i) || match l[q]? with
 | some g => g.i.calm || g.i.iJ
 | none => true))
def Ed (l : List GI) (bs : List Nat) : Bool :=
 (List.range l.length).all fun j => (List.range l.length).all fun i => match l[j]?, l[i]? with
   | some gj, some gi => gj.i.calm || gi.i.free || (gi.i.fF && !gj.i.isApp) || i == j || (bs.getD (max j i) 0).testBit (min j i) || exU l gj.i gi.i j i
   | _, _ => false
def aA.cu : aA → Bool
 | .callM .. => true
 | .callvM .. => true
 | _ => false
def qS : Nat → List Oper → Bool
 | _, [] => true
 | p, o :: r => o.after.toList.all (fun e => !Region.binds .any e || decide (e.on < p)) && qS (p + 1) r
def yJ (l : List GI) (bs : List Nat) : Bool := match l.getLast? with
 | some ⟨.callM .., none⟩ => (List.range (l.length - 1)).all (fun p => (bs.getD (l.length - 1) 0).testBit p) && l.dropLast.all fun g => !g.i.cu
 | _ => false
def rE (ops : List Oper) (l : List GI) : Bool :=
 let bs := kp [] ops
 yV ops bs && (Ed l bs && (((l.all fun g => !g.i.cu) || yJ l bs) && qS 0 ops))
def aA.FN : aA → aA
 | .app k (.c .av) y => .appN k y
 | i => i
def looseAt (bs : List Nat) (l : List GI) (i : Nat) : Bool :=
 (List.range l.length).any fun j => match l[j]? with
   | some gj => !(gj.i.FN.calm || i == j || (bs.getD (max j i) 0).testBit (min j i))
   | none => false
def Fl (bs : List Nat) (l : List GI) (i : Nat) : Bool :=
 (List.range l.length).all fun j => match l[j]? with
   | some gj => gj.i.FN.calm || i == j || (bs.getD (max j i) 0).testBit (min j i) || (gj.i.iJ && (decide (i < j) && (List.range j).all fun q => decide (q ≤ i) || match l[q]? with
    | some g => g.i.FN.calm || g.i.iJ
    | none => true))
   | none => true
def Fg (bs : List Nat) (l : List GI) (p : Nat) : Bool :=
 (List.range l.length).any fun j => match l[j]? with
   | some ⟨.ia _ (.l q) _, _⟩ => Nat.beq q p && (List.range l.length).any fun i => match l[i]? with
    | some ⟨.ld _ _ (.l r), _⟩ => Nat.beq r j && looseAt bs l i
    | _ => false
   | _ => false
def im (bs : List Nat) (l0 : List GI) : Nat → List GI → List GI
 | _, [] => []
 | p, g :: r => (match g.i with
  | .ld n ag x => if looseAt bs l0 p then (if Fl bs l0 p then ⟨.ldU n ag x, g.g⟩ else ⟨.ldI n ag x, g.g⟩) else g
  | .bsl k z n ps => if Fg bs l0 p then ⟨.bslI k z n ps, g.g⟩ else g
  | i => ⟨i.FN, g.g⟩) :: im bs l0 (p + 1) r
def CC.code (C : CC) : Code → Option AC
 | .skip => some .skip
 | .region _ ops draw => match C.ops [] ops.toList with
  | some l => if draw then
    if rE ops.toList (im (kp [] ops.toList) l 0 l) then some (.reg true (im (kp [] ops.toList) l 0 l) (C.ef 0 ops.toList)) else none
   else some (.reg false l (C.ef 0 ops.toList))
  | none => none
 | .seq a b => match C.code a, C.code b with
  | some a, some b => some (.seq a b)
  | _, _ => none
 | .cond c a b => match C.src [] c, C.code a, C.code b with
  | some c, some a, some b => some (.cond c a b)
  | _, _, _ => none
 | .block id a => (C.code a).map (.block id)
 | .loop a => (C.code a).map .loop
 | .exit id => some (.exit id)
 | .ret => some .ret
 | .scope a => C.code a
 | .label _ => some .skip
 | _ => none
def ze : (defs : List (Option Nat)) → List Oper → List Nat
 | _, [] => []
 | defs, o :: r => (o.op.operands.toList.filterMap fun
   | .tmp t => if (posOf t defs).isNone then some t else none
   | _ => none) ++ ze (defs ++ [o.dst]) r
def sO : Code → List Nat
 | .region _ ops _ => ze [] ops.toList
 | .seq a b => sO a ++ sO b
 | .cond c a b => (match c with
  | .tmp t => [t]
  | _ => []) ++ sO a ++ sO b
 | .block _ a => sO a
 | .loop a => sO a
 | .scope a => sO a
 | _ => []
def mT : List ResultVar → List Nat
 | [] => []
 | .tmp t :: r => t :: mT r
 | .cell t _ :: r => t :: mT r
def dedup : List Nat → List Nat → List Nat
 | acc, [] => acc.reverse
 | acc, a :: r => if acc.contains a then dedup acc r else dedup (a :: acc) r
def oV (P : Program) (sl : List Nat) : List ResultVar → Option (List zh)
 | [] => some []
 | .tmp t :: r => match qE sl t, oV P sl r with
  | some a, some l => some (⟨a, none⟩ :: l)
  | _, _ => none
 | .cell t ty :: r => match qE sl t, oV P sl r with
  | some a, some l => if P.cellsOf ty = 0 ∨ (P.underlying ty).isNone ∨ (bp P ty = false ∧ P.cellsOf ty ≠ 1) then none else some (⟨a, some (P.cellsOf ty, bp P ty)⟩ :: l)
  | _, _ => none
def slotsOf (fn : Func) : List Nat := dedup [] (List.range (fn.params.size + fn.nfree) ++ mT fn.results.toList ++ sO (fn.body.getD .skip))
def Ia (P : Program) (ops : List Oper) : Bool := ops.any fun o => match o.op with
 | .makeFunc _ first _ => !first.isEmpty
 | .call c => (match c.callee with
  | .value (.tmp _) => c.argTypes.toList.any fun t => match P.underlying t with
   | some (.pointer _) => true
   | _ => false
  | _ => false)
 | _ => false
def w9 (P : Program) : Code → Bool
 | .region _ ops _ => Ia P ops.toList
 | .seq a b => w9 P a || w9 P b
 | .cond _ a b => w9 P a || w9 P b
 | .block _ a => w9 P a
 | .loop a => w9 P a
 | .scope a => w9 P a
 | _ => false
def Am (P : Program) (fn : Func) : Bool := w9 P (fn.body.getD .skip)
def compile (P : Program) (ν : List (Nat × Nat)) (bM : List Nat) (fn : Func) : Option aI :=
 match fn.body with
 | some body =>
  match CC.code { P, ν, bM, slots := slotsOf fn, ntmps := fn.ntmps, vm := Am P fn } body, oV P (slotsOf fn) fn.results.toList with
  | some a, some res =>
   if fn.params.size + fn.nfree ≤ fn.ntmps then some { np := fn.params.size + fn.nfree, ns := (slotsOf fn).length, res, rsh := fn.resultTypes.toList.map (wT P 8), body := a } else none
  | _, _ => none
 | none => none
end Go.Abs
section
namespace Go.Abs
structure X where
 w : World
 I : Nat → Prop
 β : Nat → Option (Nat × Nat × Nat)
inductive RD (ν : List (Nat × Nat)) (x : X) : Value → D → Prop
 | any (v : Value) : RD ν x v .any
 | bool (b : Bool) : RD ν x (.bool b) (.bool b)
 | int (k : IntKind) (n : Int) : RD ν x (.int k n) (.int k n)
 | str (s : List UInt8) (h : s.length ≤ maxLen) : RD ν x (.string ⟨⟨s⟩⟩) (.str s)
 | agg (cs : Array Value) (ds : List D) (hl : cs.size = ds.length) (h1 : ∀ i, i < ds.length → (cs.getD i undef).oneCell' = true)
   (h : ∀ i, i < ds.length → RD ν x (cs.getD i undef) (ds.getD i .any)) : RD ν x (.agg cs) (.agg ds)
 | tup (cs : Array Value) (ds : List D) (hl : cs.size = ds.length)
   (h : ∀ i, i < ds.length → RD ν x (cs.getD i undef) (ds.getD i .any)) : RD ν x (.tuple cs) (.tup ds)
 | av : RD ν x (.slice none 0 0) .av
 | sl (a : Option Addr) (b off len cap k : Nat) (es : List D) (c : Nat → Nat → Value) (hlen : len = es.length)
   (ha : es = [] ∨ (a = some ⟨b, off, none⟩ ∧ x.I b)) (hcap : len ≤ cap) (hm : cap ≤ maxLen)
   (hk : ∀ i, i < len → (es.getD i .any).cells.length = k) (hn : ∀ i, i < len → (es.getD i .any).aL = true)
   (hc : ∀ i j, i < len → j < k → x.w.cell? ⟨b, off + i * k + j, none⟩ = some (c i j))
   (h1 : ∀ i j, i < len → j < k → (c i j).oneCell' = true)
   (h : ∀ i j, i < len → j < k → RD ν x (c i j) ((es.getD i .any).cells.getD j .any)) : RD ν x (.slice a len cap) (.sl k es)
 | ref (b off k i o at_ : Nat) (es : List D) (c : Nat → Nat → Value) (hI : x.I b) (hat : at_ = off + i * k + o)
   (hk : ∀ i, i < es.length → (es.getD i .any).cells.length = k) (hn : ∀ i, i < es.length → (es.getD i .any).aL = true)
   (hc : ∀ i j, i < es.length → j < k → x.w.cell? ⟨b, off + i * k + j, none⟩ = some (c i j))
   (h1 : ∀ i j, i < es.length → j < k → (c i j).oneCell' = true)
   (h : ∀ i j, i < es.length → j < k → RD ν x (c i j) ((es.getD i .any).cells.getD j .any)) : RD ν x (.pointer (some ⟨b, at_, none⟩)) (.ref k es i o)
 | ptr (l k i o b base tot at_ : Nat) (hβ : x.β l = some (b, base, tot)) (hat : at_ = base + i * k + o) : RD ν x (.pointer (some ⟨b, at_, none⟩)) (.ptr l k i o)
 | own (l k i n b base tot cap : Nat) (a : Addr) (hβ : x.β l = some (b, base, tot)) (ha : 0 < cap → a = ⟨b, base + i * k, none⟩)
   (hcap : n ≤ cap) (hm : cap ≤ maxLen) (ht : i + cap ≤ tot) : RD ν x (.slice (some a) n cap) (.own l k i n)
 | own0 (l k i : Nat) : RD ν x (.slice none 0 0) (.own l k i 0)
 | nilp : RD ν x (.pointer none) .nilp
 | fn (fid n : Nat) (cs : Array Value) (ds : List D) (hν : cZ ν fid = some n) (hl : cs.size = ds.length)
   (h : ∀ i, i < ds.length → RD ν x (cs.getD i undef) (ds.getD i .any)) : RD ν x (.func (.func fid) #[] cs) (.fn n ds)
 | cT (fid n : Nat) (fs : Array Value) (ds : List D) (hν : cZ ν fid = some n) (hl : fs.size = ds.length)
   (h : ∀ i, i < ds.length → RD ν x (fs.getD i undef) (ds.getD i .any)) : RD ν x (.func (.func fid) fs #[]) (.fn (n + 1000000) ds)
 | nilf : RD ν x .nilFunc .nilf
 | it (l b base tot : Nat) (hβ : x.β l = some (b, base, tot)) : RD ν x (.pointer (some ⟨b, 0, none⟩)) (.it l)
section
variable {ν : List (Nat × Nat)} {x x' : X}
structure Le (x x' : X) : Prop where
 I : ∀ b, x.I b → x'.I b
 kX : ∀ b, x.I b → x'.w.heap[b]? = x.w.heap[b]?
 β : ∀ l p, x.β l = some p → x'.β l = some p
theorem kq {w w' : World} {b o : Nat} {v : Value} (h : w'.heap[b]? = w.heap[b]?) (hc : w.cell? ⟨b, o, none⟩ = some v) : w'.cell? ⟨b, o, none⟩ = some v := by
 rw [← hc]; unfold World.cell?; simp only [h]
theorem Le.refl (x : X) : Le x x := ⟨fun _ h => h, fun _ _ => rfl, fun _ _ h => h⟩
theorem Le.trans {x'' : X} (h : Le x x') (h' : Le x' x'') : Le x x'' :=
 ⟨fun b hb => h'.I b (h.I b hb), fun b hb => (h'.kX b (h.I b hb)).trans (h.kX b hb), fun l p hp => h'.β l p (h.β l p hp)⟩
theorem RD.mono {v : Value} {d : D} (h : RD ν x v d) (hl : Le x x') : RD ν x' v d := by
 induction h with
 | any v => exact .any v
 | bool b => exact .bool b
 | int k n => exact .int k n
 | str s h => exact .str s h
 | agg cs ds hl' h1 _ ih => exact .agg cs ds hl' h1 ih
 | tup cs ds hl' _ ih => exact .tup cs ds hl' ih
 | av => exact .av
 | sl a b off len cap k es c hlen ha hcap hm hk hn hc h1 _ ih =>
  refine .sl a b off len cap k es c hlen (ha.imp id fun ⟨p, q⟩ => ⟨p, hl.I _ q⟩) hcap hm hk hn (fun i j hi hj => ?_) h1 ih
  rcases ha with rfl | ⟨_, hI⟩
  ·simp at hlen; omega
  ·exact kq (hl.kX _ hI) (hc i j hi hj)
 | ref b off k i o at_ es c hI hat hk hn hc h1 _ ih =>
  exact .ref b off k i o at_ es c (hl.I _ hI) hat hk hn (fun i j hi hj => kq (hl.kX _ hI) (hc i j hi hj)) h1 ih
 | ptr l k i o b base tot at_ hβ hat => exact .ptr l k i o b base tot at_ (hl.β _ _ hβ) hat
 | own l k i n b base tot cap a hβ ha hcap hm ht => exact .own l k i n b base tot cap a (hl.β _ _ hβ) ha hcap hm ht
 | own0 l k i => exact .own0 l k i
 | nilp => exact .nilp
 | fn fid n cs ds hν hl' _ ih => exact .fn fid n cs ds hν hl' ih
 | cT fid n cs ds hν hl' _ ih => exact .cT fid n cs ds hν hl' ih
 | nilf => exact .nilf
 | it l b base tot hβ => exact .it l b base tot (hl.β _ _ hβ)
theorem b8 : ∀ {ds : List D}, aH ds = true → ∀ i, (ds.getD i .any).aL = true
 | [], _, i => by simp [D.aL]
 | d :: r, h, 0 => by simp [aH] at h; simpa using h.1
 | d :: r, h, i + 1 => by simp [aH] at h; simpa using b8 h.2 i
theorem eV : ∀ {ds : List D}, je ds = true → ∀ i, (ds.getD i .any).de = true
 | [], _, i => by simp [D.de]
 | d :: r, h, 0 => by simp [je] at h; simpa using h.1
 | d :: r, h, i + 1 => by simp [je] at h; simpa using eV h.2 i
theorem mh : ∀ {ds : List D}, (∀ i, i < ds.length → (ds.getD i .any).aL = true) → aH ds = true
 | [], _ => rfl
 | d :: r, h => by
  simp only [aH, Bool.and_eq_true]
  exact ⟨by simpa using h 0 (by simp), mh fun i hi => by simpa using h (i + 1) (by simp; omega)⟩
theorem gK {d : D} (h : d.aL = true) (j : Nat) : (d.cells.getD j .any).aL = true := by
 cases d <;> simp only [D.cells] <;> first
  | (simp only [D.aL] at h; exact b8 h j)
  | (cases j <;> simp_all [D.aL])
theorem RD.aL {v : Value} {d : D} (h : RD ν x v d) (hn : d.aL = true) (hI : ∀ b, x.I b → x'.I b) (hk : ∀ b, x.I b → x'.w.heap[b]? = x.w.heap[b]?) : RD ν x' v d := by
 induction h with
 | any v => exact .any v
 | bool b => exact .bool b
 | int k n => exact .int k n
 | str s h => exact .str s h
 | agg cs ds hl' h1 _ ih => exact .agg cs ds hl' h1 fun i hi => ih i hi (b8 (by simpa [D.aL] using hn) i)
 | tup cs ds hl' _ ih => exact .tup cs ds hl' fun i hi => ih i hi (b8 (by simpa [D.aL] using hn) i)
 | av => exact .av
 | sl a b off len cap k es c hlen ha hcap hm hk' hn' hc h1 _ ih =>
  refine .sl a b off len cap k es c hlen (ha.imp id fun ⟨p, q⟩ => ⟨p, hI _ q⟩) hcap hm hk' hn' (fun i j hi hj => ?_) h1 fun i j hi hj => ih i j hi hj (gK (hn' i hi) j)
  rcases ha with rfl | ⟨_, hIb⟩
  ·simp at hlen; omega
  ·exact kq (hk _ hIb) (hc i j hi hj)
 | ref b off k i o at_ es c hIb hat hk' hn' hc h1 _ ih =>
  exact .ref b off k i o at_ es c (hI _ hIb) hat hk' hn' (fun i j hi hj => kq (hk _ hIb) (hc i j hi hj)) h1 fun i j hi hj => ih i j hi hj (gK (hn' i hi) j)
 | ptr => simp [D.aL] at hn
 | own => simp [D.aL] at hn
 | own0 => simp [D.aL] at hn
 | nilp => exact .nilp
 | fn fid n cs ds hν hl' _ ih => exact .fn fid n cs ds hν hl' fun i hi => ih i hi (b8 (by simpa [D.aL] using hn) i)
 | cT fid n cs ds hν hl' _ ih => exact .cT fid n cs ds hν hl' fun i hi => ih i hi (b8 (by simpa [D.aL] using hn) i)
 | nilf => exact .nilf
 | it => simp [D.aL] at hn
theorem RD.de {v : Value} {d : D} (h : RD ν x v d) (hn : d.de = true) : RD ν x' v d := by
 induction h with
 | any v => exact .any v
 | bool b => exact .bool b
 | int k n => exact .int k n
 | str s h => exact .str s h
 | agg cs ds hl' h1 _ ih => exact .agg cs ds hl' h1 fun i hi => ih i hi (eV (by simpa [D.de] using hn) i)
 | tup cs ds hl' _ ih => exact .tup cs ds hl' fun i hi => ih i hi (eV (by simpa [D.de] using hn) i)
 | av => exact .av
 | sl => simp [D.de] at hn
 | ref => simp [D.de] at hn
 | ptr => simp [D.de] at hn
 | own => simp [D.de] at hn
 | own0 => simp [D.de] at hn
 | nilp => exact .nilp
 | fn fid n cs ds hν hl' _ ih => exact .fn fid n cs ds hν hl' fun i hi => ih i hi (eV (by simpa [D.de] using hn) i)
 | cT fid n cs ds hν hl' _ ih => exact .cT fid n cs ds hν hl' fun i hi => ih i hi (eV (by simpa [D.de] using hn) i)
 | nilf => exact .nilf
 | it => simp [D.de] at hn
theorem RD.cells {v : Value} {d : D} (h : RD ν x v d) (hd : 0 < d.cells.length) :
  v.cells.size = d.cells.length ∧ ∀ j, j < d.cells.length → (v.cells.getD j undef).oneCell' = true ∧ RD ν x (v.cells.getD j undef) (d.cells.getD j .any) := by
 cases h with
 | any => simp [D.cells] at hd
 | tup => simp [D.cells] at hd
 | agg cs ds hl h1 h => exact ⟨hl, fun j hj => ⟨h1 j hj, h j hj⟩⟩
 | bool b => exact ⟨rfl, fun j hj => by simp [D.cells] at hj; subst hj; exact ⟨rfl, .bool b⟩⟩
 | int k n => exact ⟨rfl, fun j hj => by simp [D.cells] at hj; subst hj; exact ⟨rfl, .int k n⟩⟩
 | str s h => exact ⟨rfl, fun j hj => by simp [D.cells] at hj; subst hj; exact ⟨rfl, .str s h⟩⟩
 | av => exact ⟨rfl, fun j hj => by simp [D.cells] at hj; subst hj; exact ⟨rfl, .av⟩⟩
 | sl a b off len cap k es c hlen ha hcap hm hk hn hc h1 h => exact ⟨rfl, fun j hj => by simp [D.cells] at hj; subst hj; exact ⟨rfl, .sl a b off len cap k es c hlen ha hcap hm hk hn hc h1 h⟩⟩
 | ref b off k i o at_ es c hI hat hk hn hc h1 h => exact ⟨rfl, fun j hj => by simp [D.cells] at hj; subst hj; exact ⟨rfl, .ref b off k i o at_ es c hI hat hk hn hc h1 h⟩⟩
 | ptr l k i o b base tot at_ hβ hat => exact ⟨rfl, fun j hj => by simp [D.cells] at hj; subst hj; exact ⟨rfl, .ptr l k i o b base tot at_ hβ hat⟩⟩
 | own l k i n b base tot cap a hβ ha hcap hm ht => exact ⟨rfl, fun j hj => by simp [D.cells] at hj; subst hj; exact ⟨rfl, .own l k i n b base tot cap a hβ ha hcap hm ht⟩⟩
 | own0 l k i => exact ⟨rfl, fun j hj => by simp [D.cells] at hj; subst hj; exact ⟨rfl, .own0 l k i⟩⟩
 | nilp => exact ⟨rfl, fun j hj => by simp [D.cells] at hj; subst hj; exact ⟨rfl, .nilp⟩⟩
 | fn fid n cs ds hν hl h => exact ⟨rfl, fun j hj => by simp [D.cells] at hj; subst hj; exact ⟨rfl, .fn fid n cs ds hν hl h⟩⟩
 | cT fid n cs ds hν hl h => exact ⟨rfl, fun j hj => by simp [D.cells] at hj; subst hj; exact ⟨rfl, .cT fid n cs ds hν hl h⟩⟩
 | nilf => exact ⟨rfl, fun j hj => by simp [D.cells] at hj; subst hj; exact ⟨rfl, .nilf⟩⟩
 | it l b base tot hβ => exact ⟨rfl, fun j hj => by simp [D.cells] at hj; subst hj; exact ⟨rfl, .it l b base tot hβ⟩⟩
end
end Go.Abs
end
section
namespace Go.Abs
section
variable {ν : List (Nat × Nat)} {x x' : X}
class cd where
 /-- the type of a builder, and that of its bytes -/
 tB : TypeId := 0
 tU : TypeId := 0
 gd : X → Prop
 le : ∀ x x' : X, (∀ b, x.I b → x'.I b) → (∀ b, x.I b → x'.w.heap[b]? = x.w.heap[b]?) → gd x → gd x'
variable [cd]
def j7 (ν : List (Nat × Nat)) (x : X) (b base tot : Nat) : bm → Prop
 | .buf k es => 0 < k ∧ es.length ≤ tot ∧ ∃ c T fr, x.w.heap[b]? = some (.cells c T fr) ∧ base + tot * k ≤ c.size ∧
   (∀ o, o < c.size → ¬ (fr.1 ≤ o ∧ o < fr.2)) ∧
   ∀ i, i < es.length → (es.getD i .any).cells.length = k ∧ ∀ j, j < k →
    (c.getD (base + i * k + j) undef).oneCell' = true ∧ RD ν x (c.getD (base + i * k + j) undef) ((es.getD i .any).cells.getD j .any)
 | .iter s pos => x.w.heap[b]? = some (.stringIter ⟨⟨s⟩⟩ pos) ∧ s.length ≤ maxLen
 | .row s => base = 0 ∧ ∃ c, x.w.heap[b]? = some (.cells c cd.tU (0, 0)) ∧ c.size = tot ∧ tot ≤ maxLen ∧ s.length ≤ tot ∧ ∀ i, i < s.length → c.getD i undef = .int .u8 (s.getD i 0).toNat
 | .bld o n u => base = 0 ∧ ∃ v, x.w.heap[b]? = some (.cells #[.pointer (if u = true then some ⟨b, 0, none⟩ else none), v] cd.tB (0, 0)) ∧
   match o with
   | none => n = 0 ∧ v = .slice none 0 0
   | some l => ∃ g t, v = .slice (some ⟨g, 0, none⟩) n t ∧ n ≤ t ∧ x.β l = some (g, 0, t)
theorem mc (h : Le x x') (hg : cd.gd x) : cd.gd x' := cd.le x x' h.I h.kX hg
structure dm (ν : List (Nat × Nat)) (x : X) (f : Nat → Option bm) : Prop where
 own : ∀ l blk b base tot, f l = some blk → x.β l = some (b, base, tot) → ¬ x.I b ∧ j7 ν x b base tot blk
 inj : ∀ l l' b base tot base' tot', f l ≠ none → f l' ≠ none → x.β l = some (b, base, tot) → x.β l' = some (b, base', tot') → l = l'
 imm : ∀ b, x.I b → b < x.w.heap.size
 cT : ∀ l b base tot, x.β l = some (b, base, tot) → b < x.w.heap.size
 gd : cd.gd x
structure Step (x x' : X) : Prop where
 os : x'.w.os = x.w.os
 tape : x'.w.tape = x.w.tape
 output : x'.w.output = x.w.output
 size : x.w.heap.size ≤ x'.w.heap.size
 I : ∀ b, x.I b → x'.I b
 kX : ∀ b, x.I b → x'.w.heap[b]? = x.w.heap[b]?
 β : ∀ l p, x.β l = some p → x'.β l = some p
 old : ∀ b, b < x.w.heap.size → (∀ l p, x.β l = some p → p.1 ≠ b) → x'.w.heap[b]? = x.w.heap[b]?
 newI : ∀ b, x'.I b → x.I b ∨ x.w.heap.size ≤ b ∨ ∃ l p, x.β l = some p ∧ p.1 = b
 newβ : ∀ l p, x'.β l = some p → x.β l = some p ∨ x.w.heap.size ≤ p.1 ∨ ∃ l' p', x.β l' = some p' ∧ p'.1 = p.1
theorem Step.le (h : Step x x') : Le x x' := ⟨h.I, h.kX, h.β⟩
theorem Step.refl (x : X) : Step x x := ⟨rfl, rfl, rfl, Nat.le_refl _, fun _ h => h, fun _ _ => rfl, fun _ _ h => h, fun _ _ _ => rfl, fun _ h => .inl h, fun _ _ h => .inl h⟩
theorem Step.trans {x'' : X} (h : Step x x') (h' : Step x' x'') : Step x x'' := by
 refine ⟨h'.os.trans h.os, h'.tape.trans h.tape, h'.output.trans h.output, Nat.le_trans h.size h'.size, fun b hb => h'.I b (h.I b hb),
  fun b hb => (h'.kX b (h.I b hb)).trans (h.kX b hb), fun l p hp => h'.β l p (h.β l p hp), ?_, ?_, ?_⟩
 ·intro b hb hn
  refine (h'.old b (Nat.lt_of_lt_of_le hb h.size) ?_).trans (h.old b hb hn)
  intro l p hp e
  rcases h.newβ l p hp with h1 | h1 | ⟨l', p', h1, h2⟩
  ·exact hn l p h1 e
  ·omega
  ·exact hn l' p' h1 (h2.trans e)
 ·intro b hb
  rcases h'.newI b hb with h1 | h1 | ⟨l, p, h1, h2⟩
  ·exact h.newI b h1
  ·exact .inr (.inl (Nat.le_trans h.size h1))
  ·rcases h.newβ l p h1 with h3 | h3 | ⟨l', p', h3, h4⟩
   ·exact .inr (.inr ⟨l, p, h3, h2⟩)
   ·exact .inr (.inl (h2 ▸ h3))
   ·exact .inr (.inr ⟨l', p', h3, h4.trans h2⟩)
 ·intro l p hp
  rcases h'.newβ l p hp with h1 | h1 | ⟨l', p', h1, h2⟩
  ·exact h.newβ l p h1
  ·exact .inr (.inl (Nat.le_trans h.size h1))
  ·rcases h.newβ l' p' h1 with h3 | h3 | ⟨l'', p'', h3, h4⟩
   ·exact .inr (.inr ⟨l', p', h3, h2⟩)
   ·exact .inr (.inl (h2 ▸ h3))
   ·exact .inr (.inr ⟨l'', p'', h3, h4.trans h2⟩)
theorem j7.mono {b base tot : Nat} {blk : bm} (h : j7 ν x b base tot blk) (hl : Le x x') (hb : x'.w.heap[b]? = x.w.heap[b]?) : j7 ν x' b base tot blk := by
 cases blk with
 | buf k es =>
  obtain ⟨hk, ht, c, T, fr, h1, h2, h3, h4⟩ := h
  exact ⟨hk, ht, c, T, fr, hb.trans h1, h2, h3, fun i hi => ⟨(h4 i hi).1, fun j hj => ⟨((h4 i hi).2 j hj).1, ((h4 i hi).2 j hj).2.mono hl⟩⟩⟩
 | iter s pos => exact ⟨hb.trans h.1, h.2⟩
 | row s =>
  obtain ⟨h0, c, h1, h2⟩ := h
  exact ⟨h0, c, hb.trans h1, h2⟩
 | bld o n u =>
  obtain ⟨h0, v, h1, h2⟩ := h
  refine ⟨h0, v, hb.trans h1, ?_⟩
  cases o with
  | none => exact h2
  | some l =>
   obtain ⟨g, t, h3, h4, h5⟩ := h2
   exact ⟨g, t, h3, h4, hl.β _ _ h5⟩
structure dM (w w' : World) : Prop where
 os : w'.os = w.os
 tape : w'.tape = w.tape
 output : w'.output = w.output
 size : w.heap.size ≤ w'.heap.size
 old : ∀ b, b < w.heap.size → w'.heap[b]? = w.heap[b]?
theorem dM.refl (w : World) : dM w w := ⟨rfl, rfl, rfl, Nat.le_refl _, fun _ _ => rfl⟩
theorem gT (w : World) (o : Obj) (b : Nat) (hb : b < w.heap.size) : (w.alloc o).heap[b]? = w.heap[b]? := by
 simp only [World.alloc, Array.getElem?_push]; rw [if_neg (by omega)]
theorem cM (w : World) (o : Obj) : (w.alloc o).heap[w.heap.size]? = some o := by show (w.heap.push o)[w.heap.size]? = some o; simp
theorem dM.alloc (w : World) (o : Obj) : dM w (w.alloc o) := ⟨rfl, rfl, rfl, by simp, fun b hb => gT w o b hb⟩
theorem dM.trans {w w' w'' : World} (h : dM w w') (h' : dM w' w'') : dM w w'' :=
 ⟨h'.os.trans h.os, h'.tape.trans h.tape, h'.output.trans h.output, Nat.le_trans h.size h'.size, fun b hb => (h'.old b (Nat.lt_of_lt_of_le hb h.size)).trans (h.old b hb)⟩
theorem dM.drew (w : World) : dM w w.drew := ⟨rfl, rfl, rfl, Nat.le_refl _, fun _ _ => rfl⟩
theorem Step.grow {w' : World} (hw : dM x.w w') (himm : ∀ b, x.I b → b < x.w.heap.size) : Step x ⟨w', x.I, x.β⟩ :=
 ⟨hw.os, hw.tape, hw.output, hw.size, fun _ h => h, fun b hb => hw.old b (himm b hb), fun _ _ h => h, fun b hb _ => hw.old b hb, fun _ h => .inl h, fun _ _ h => .inl h⟩
theorem dm.grow {f : Nat → Option bm} {w' : World} (h : dm ν x f) (hw : dM x.w w') : dm ν ⟨w', x.I, x.β⟩ f :=
 ⟨fun l blk b base tot h1 h2 => ⟨(h.own l blk b base tot h1 h2).1, (h.own l blk b base tot h1 h2).2.mono (Step.grow hw h.imm).le (hw.old b (h.cT l b base tot h2))⟩,
  h.inj, fun b hb => Nat.lt_of_lt_of_le (h.imm b hb) hw.size, fun l b base tot hb => Nat.lt_of_lt_of_le (h.cT l b base tot hb) hw.size, mc (Step.grow hw h.imm).le h.gd⟩
def cG (β : Nat → Option (Nat × Nat × Nat)) (L : Nat) (p : Nat × Nat × Nat) : Nat → Option (Nat × Nat × Nat) := fun l => if l = L then some p else β l
def gB (f : Nat → Option bm) (L : Nat) (b : Option bm) : Nat → Option bm := fun l => if l = L then b else f l
theorem sK {w' : World} {L n base tot : Nat} (hw : dM x.w w') (hn : x.w.heap.size ≤ n) (hL : x.β L = none) (himm : ∀ b, x.I b → b < x.w.heap.size) :
  Step x ⟨w', x.I, cG x.β L (n, base, tot)⟩ := by
 refine ⟨hw.os, hw.tape, hw.output, hw.size, fun _ h => h, fun b hb => hw.old b (himm b hb), fun l p hp => ?_, fun b hb _ => hw.old b hb, fun _ h => .inl h, fun l p hp => ?_⟩
 ·have : l ≠ L := fun e => by rw [e, hL] at hp; cases hp
  simp [cG, this, hp]
 ·by_cases e : l = L
  ·simp only [cG, e, if_true, Option.some.injEq] at hp
   exact .inr (.inl (hp ▸ hn))
  ·simp only [cG, e, if_false] at hp
   exact .inl hp
theorem DR {f : Nat → Option bm} {w' : World} {L n base tot : Nat} {blk : bm} (h : dm ν x f) (hw : dM x.w w') (hn : x.w.heap.size ≤ n) (hnw : n < w'.heap.size) (hL : x.β L = none)
  (hb : j7 ν ⟨w', x.I, cG x.β L (n, base, tot)⟩ n base tot blk) : dm ν ⟨w', x.I, cG x.β L (n, base, tot)⟩ (gB f L (some blk)) := by
 have hle := (sK (base := base) (tot := tot) hw hn hL h.imm).le
 refine ⟨fun l blk' b base' tot' h1 h2 => ?_, fun l l' b base' tot' base'' tot'' h1 h1' h2 h2' => ?_, fun b hb => Nat.lt_of_lt_of_le (h.imm b hb) hw.size, fun l b base' tot' h2 => ?_, mc hle h.gd⟩
 ·by_cases e : l = L
  ·subst e
   simp only [cG, if_true, Option.some.injEq, Prod.mk.injEq] at h2
   simp only [gB, if_true, Option.some.injEq] at h1
   obtain ⟨rfl, rfl, rfl⟩ := h2
   subst h1
   exact ⟨fun hI => by have := h.imm _ hI; omega, hb⟩
  ·simp only [cG, e, if_false] at h2
   simp only [gB, e, if_false] at h1
   obtain ⟨a1, a2⟩ := h.own l blk' b base' tot' h1 h2
   exact ⟨a1, a2.mono hle (hw.old b (h.cT l b base' tot' h2))⟩
 ·by_cases e : l = L <;> by_cases e' : l' = L
  ·exact e.trans e'.symm
  ·simp only [cG, e, if_true, Option.some.injEq, Prod.mk.injEq] at h2
   simp only [cG, e', if_false] at h2'
   have := h.cT l' b base'' tot'' h2'
   obtain ⟨h2, _, _⟩ := h2
   omega
  ·simp only [cG, e', if_true, Option.some.injEq, Prod.mk.injEq] at h2'
   simp only [cG, e, if_false] at h2
   have := h.cT l b base' tot' h2
   obtain ⟨h2', _, _⟩ := h2'
   omega
  ·simp only [cG, e, if_false] at h2
   simp only [cG, e', if_false] at h2'
   simp only [gB, e, if_false] at h1
   simp only [gB, e', if_false] at h1'
   exact h.inj l l' b base' tot' base'' tot'' h1 h1' h2 h2'
 ·by_cases e : l = L
  ·simp only [cG, e, if_true, Option.some.injEq, Prod.mk.injEq] at h2
   obtain ⟨h2, _, _⟩ := h2
   show b < w'.heap.size
   omega
  ·simp only [cG, e, if_false] at h2
   exact Nat.lt_of_lt_of_le (h.cT l b base' tot' h2) hw.size
variable {P : Program} {w : World}
theorem kd {t : TypeId} (h : P.cellsOf t ≠ 0) : ∃ i, P.info? t = some i ∧ i.size = P.cellsOf t := by
 unfold Program.cellsOf at h ⊢
 cases hi : P.info? t with
 | none => simp [hi] at h
 | some i => exact ⟨i, rfl, by simp⟩
theorem cr {t : TypeId} (h : P.cellsOf t ≠ 0) : (sizeOf t).run P w = .ok (P.cellsOf t) w := by
 obtain ⟨i, hi, hs⟩ := kd h
 simp [sizeOf, typeInfo, hi, hs]
theorem n5 {t : TypeId} (h : (P.underlying t).isNone = false) : (isAgg t).run P w = .ok (bp P t) w := by
 cases hu : P.underlying t with
 | none => simp [hu] at h
 | some d => unfold isAgg bp; rw [Sem.run_bind, run_underlying hu w]; simp only [hu, Result.andThen]; cases d <;> rfl
theorem Addr.qB (b o n : Nat) : (⟨b, o, none⟩ : Addr).add n = ⟨b, o + n, none⟩ := by unfold Addr.add; split <;> simp_all
end
end Go.Abs
end
section
namespace Go.Abs
variable [cd]
section
variable {ν : List (Nat × Nat)} {x : X} {f : Nat → Option bm} {P : Program}
mutual
theorem iD : ∀ (v : Value) (d : D), c9 v = some d → RD ν x v d
 | .bool b, d, h => by simp [c9] at h; subst h; exact .bool b
 | .int k n, d, h => by simp [c9] at h; subst h; exact .int k n
 | .string ⟨⟨s⟩⟩, d, h => by
  simp only [c9] at h
  split at h
  ·rename_i hs
   simp only [Option.some.injEq] at h
   subst h
   exact .str s (by simpa [maxLen, ByteArray.size] using hs)
  ·cases h
 | .pointer none, d, h => by simp [c9] at h; subst h; exact .nilp
 | .slice none 0 0, d, h => by simp [c9] at h; subst h; exact .av
 | .nilFunc, d, h => by simp [c9] at h; subst h; exact .nilf
 | .agg ⟨cs⟩, d, h => by
  simp only [c9] at h
  split at h
  ·rename_i hone
   cases hc : mH cs with
   | none => simp [hc] at h
   | some ds =>
    simp [hc] at h
    subst h
    obtain ⟨hl, hr⟩ := nA cs ds hc
    refine .agg ⟨cs⟩ ds (by simpa using hl) (fun i hi => ?_) (fun i hi => by simpa using hr i hi)
    have := lS cs hone i (by omega)
    simpa using this
  ·cases h
 | .float _ _, d, h => by simp [c9] at h
 | .complex _ _ _, d, h => by simp [c9] at h
 | .pointer (some _), d, h => by simp [c9] at h
 | .slice (some _) _ _, d, h => by simp [c9] at h
 | .slice none (_ + 1) _, d, h => by simp [c9] at h
 | .slice none 0 (_ + 1), d, h => by simp [c9] at h
 | .map _, d, h => by simp [c9] at h
 | .chan _, d, h => by simp [c9] at h
 | .func _ _ _, d, h => by simp [c9] at h
 | .iface _ _, d, h => by simp [c9] at h
 | .nilIface, d, h => by simp [c9] at h
 | .tuple _, d, h => by simp [c9] at h
theorem nA : ∀ (vs : List Value) (ds : List D), mH vs = some ds → vs.length = ds.length ∧ ∀ i, i < ds.length → RD ν x (vs.getD i undef) (ds.getD i .any)
 | [], ds, h => by simp [mH] at h; subst h; simp
 | v :: r, ds, h => by
  simp only [mH] at h
  split at h
  ·rename_i d ds' h1 h2
   simp only [Option.some.injEq] at h
   subst h
   have a := iD v d h1
   obtain ⟨b1, b2⟩ := nA r ds' h2
   refine ⟨by simp [b1], fun i hi => ?_⟩
   cases i with
   | zero => simpa using a
   | succ i => simpa using b2 i (by simpa using hi)
  ·cases h
theorem lS : ∀ (vs : List Value), ow vs = true → ∀ i, i < vs.length → (vs.getD i undef).oneCell' = true
 | [], _, i, hi => by simp at hi
 | v :: r, h, i, hi => by
  simp only [ow, Bool.and_eq_true] at h
  cases i with
  | zero => simp; cases v <;> simp_all [Value.oneCell']
  | succ i => simpa using lS r h.2 i (by simpa using hi)
end
def sV (ν : List (Nat × Nat)) (x : X) (f : Nat → Option bm) (L : Nat) (d : D) (r : Result Next) : Prop :=
 ∃ v x', (r = .ok (.value v) x'.w ∨ r = .ok .skip x'.w ∧ v = undef) ∧ Step x x' ∧ RD ν x' v d ∧ dm ν x' f ∧ ∀ l, l ≠ L → x'.β l = x.β l
theorem aU {L : Nat} {d : D} {v : Value} {r : Result Next} (hs : dm ν x f) (hr : r = .ok (.value v) x.w) (hd : RD ν x v d) : sV ν x f L d r :=
 ⟨v, x, .inl hr, .refl x, hd, hs, fun _ _ => rfl⟩
def qa (C : CC) (defs : List (Option Nat)) (ρ : Src → aN) (ev : Operand → Value) (x : X) (os : List Operand) : Prop :=
 ∀ o, o ∈ os → ∀ s, C.src defs o = some s → (ρ s).ok = true → RD C.ν x (ev o) (ρ s).d
theorem RD.eS {v : Value} {b : Bool} (h : RD ν x v (.bool b)) : v = .bool b := by cases h; rfl
theorem RD.cx {v : Value} {k : IntKind} {n : Int} (h : RD ν x v (.int k n)) : v = .int k n := by cases h; rfl
theorem RD.fj {v : Value} {s : List UInt8} (h : RD ν x v (.str s)) : v = .string ⟨⟨s⟩⟩ ∧ s.length ≤ maxLen := by cases h; exact ⟨rfl, ‹_›⟩
theorem RD.pick {b : Bool} {u v : Value} {d e : D} (h1 : b = true → RD ν x u d) (h2 : b = false → RD ν x v e) : RD ν x (if b then u else v) (D.pick b d e) := by
 cases b
 ·have := h2 rfl
  simp only [Bool.false_eq_true, if_false]
  cases d <;> cases e <;> simp only [D.pick, cond_false] <;> exact this
 ·have := h1 rfl
  simp only [if_true]
  cases d <;> cases e <;> simp only [D.pick, cond_true] <;> exact this
theorem wQ {op : BinOp} {t : TypeId} {k k' : IntKind} {a b : Int} (w : World) (hb : iZ op (.int k a) (.int k' b)) :
  ∃ v, (binOp op t (.int k a) (.int k' b)).run P w = .ok v w ∧ RD ν x v (j8 op (.int k a) (.int k' b)) := by
 cases op <;> simp only [iZ] at hb <;> simp only [binOp, j8, ne_eq]
 case shl => exact ⟨_, by simp [Op.shift, show ¬ b < 0 by omega], .int _ _⟩
 case shr => exact ⟨_, by simp [Op.shift, show ¬ b < 0 by omega], .int _ _⟩
 case quo => obtain ⟨rfl, hb⟩ := hb; exact ⟨_, by simp [Op.intDiv, hb], .int _ _⟩
 case rem => obtain ⟨rfl, hb⟩ := hb; exact ⟨_, by simp [Op.intDiv, hb], .int _ _⟩
 case and => subst hb; exact ⟨_, by simp [Op.intBits], .int _ _⟩
 case or => subst hb; exact ⟨_, by simp [Op.intBits], .int _ _⟩
 case xor => subst hb; exact ⟨_, by simp [Op.intBits], .int _ _⟩
 case andNot => subst hb; exact ⟨_, by simp [Op.intBits], .int _ _⟩
 case add => subst hb; exact ⟨_, by simp [Op.intArith], .int _ _⟩
 case sub => subst hb; exact ⟨_, by simp [Op.intArith], .int _ _⟩
 case mul => subst hb; exact ⟨_, by simp [Op.intArith], .int _ _⟩
 case eql => subst hb; exact ⟨_, by simp [Op.intCmp], .bool _⟩
 case neq => subst hb; exact ⟨_, by simp [Op.intCmp], .bool _⟩
 case lss => subst hb; exact ⟨_, by simp [Op.intCmp], .bool _⟩
 case leq => subst hb; exact ⟨_, by simp [Op.intCmp], .bool _⟩
 case gtr => subst hb; exact ⟨_, by simp [Op.intCmp], .bool _⟩
 case geq => subst hb; exact ⟨_, by simp [Op.intCmp], .bool _⟩
theorem uH (a b : List UInt8) : (⟨⟨a⟩⟩ : ByteArray) ++ ⟨⟨b⟩⟩ = ⟨⟨a ++ b⟩⟩ := by
 have h : ((⟨⟨a⟩⟩ : ByteArray) ++ ⟨⟨b⟩⟩).data = (⟨a ++ b⟩ : Array UInt8) := by
  rw [ByteArray.data_append]; simp
 exact congrArg ByteArray.mk h
theorem wR {op : BinOp} {t : TypeId} {a b : List UInt8} (w : World) (hb : iZ op (.str a) (.str b)) :
  ∃ v, (binOp op t (.string ⟨⟨a⟩⟩) (.string ⟨⟨b⟩⟩)).run P w = .ok v w ∧ RD ν x v (j8 op (.str a) (.str b)) := by
 have hs : ∀ l : List UInt8, (⟨⟨l⟩⟩ : ByteArray).size = l.length := fun _ => rfl
 cases op <;> simp only [iZ] at hb <;> simp only [binOp, j8]
 case add =>
  refine ⟨.string ⟨⟨a ++ b⟩⟩, ?_, .str _ (by simp [maxLen]; omega)⟩
  have : ¬ (((⟨⟨a⟩⟩ : ByteArray).size + (⟨⟨b⟩⟩ : ByteArray).size : Nat) : Int) > IntKind.i64.max := by
   rw [hs, hs]
   simp only [IntKind.max, IntKind.signed, IntKind.bits, if_true]
   omega
  simp only [Op.stringOp, this, if_false, Sem.run_pure, uH]
 all_goals
  refine ⟨_, by simp only [Op.stringOp, Sem.run_pure]; rfl, ?_⟩
  simp only [ByteArray.toList_eq]
  exact .bool _
theorem lZ (op : BinOp) (t : TypeId) (p q : Operand) {u v : Value} (h : (∀ cs, u ≠ .agg cs) ∧ u ≠ .nilIface) (w : World) : (eqGuard op t p q u v).run P w = .ok () w := by
 obtain ⟨h1, h2⟩ := h
 unfold eqGuard
 cases op <;> simp <;> (split <;> first | rfl | simp_all)
theorem cR {α : Type} (l : List α) (o n : Nat) (d : α) (j : Nat) (hj : j < n) : ((l.drop o).take n).getD j d = l.getD (o + j) d := by
 simp [List.getD, List.getElem?_take, hj, List.getElem?_drop]
theorem eH {α : Type} (l : List α) (o n : Nat) (h : o + n ≤ l.length) : ((l.drop o).take n).length = n := by
 simp; omega
theorem bn (cs : Array Value) (i : Nat) (d : Value) : cs.toList.getD i d = cs.getD i d := by
 simp [List.getD, Array.getD]
 split <;> simp_all
theorem kE {t : TypeId} {cs : Array Value} {ds : List D} {off n : Nat} {ag : Bool} (w : World) (hv : RD ν x (.agg cs) (.agg ds)) (ht : P.cellsOf t ≠ 0) (hu : (P.underlying t).isNone = false)
  (hn : n = P.cellsOf t) (hag : ag = bp P t) (hle : off + n ≤ ds.length) (h1 : ag = false → n = 1) :
  ∃ v, (part t cs off).run P w = .ok v w ∧ RD ν x v (cut ds off n ag) := by
 cases hv with
 | agg _ _ hl hone h =>
  unfold part
  rw [Sem.run_bind, n5 hu]
  subst hag
  cases hb : bp P t
  ·have hn1 := h1 (by rw [hb])
   have hlt : off < cs.size := by omega
   refine ⟨cs.getD off undef, ?_, ?_⟩
   ·simp [Result.andThen, Array.getElem?_eq_getElem hlt, Array.getD, hlt]
   ·simp only [cut, cond_false]
    exact h off (by omega)
  ·refine ⟨.agg (cs.extract off (off + n)), ?_, ?_⟩
   ·simp [Result.andThen, cr ht, hn]
   ·simp only [cut, cond_true]
    refine .agg _ _ ?_ ?_ ?_
    ·simp; omega
    ·intro i hi
     simp at hi
     have := hone (off + i) (by omega)
     rw [← this]
     congr 1
     simp [Array.getD, show off + i < cs.size by omega, show i < min (off + n) cs.size - off by omega]
    ·intro i hi
     simp at hi
     rw [cR _ _ _ _ _ (by omega)]
     have := h (off + i) (by omega)
     have e : (cs.extract off (off + n)).getD i undef = cs.getD (off + i) undef := by
      simp [Array.getD, show off + i < cs.size by omega, show i < min (off + n) cs.size - off by omega]
     rw [e]
     exact this
end
end Go.Abs
end
section
namespace Go.Abs
variable [cd]
section
variable {x : X} {f : Nat → Option bm} {C : CC} {defs : List (Option Nat)} {ρ : Src → aN} {ev : Operand → Value} {Γ : Ctx} {m : List (Nat × bm)} {L : Nat}
theorem dY {os' : List Operand} (hρ : qa C defs ρ ev x os') : ∀ (os : List Operand) (ss : List Src), (∀ o ∈ os, o ∈ os') → C.oa defs os = some ss → rb ρ ss →
  os.length = ss.length ∧ (eB ρ ss).length = os.length ∧ ∀ i, i < (eB ρ ss).length → RD C.ν x ((os.map ev).getD i undef) ((eB ρ ss).getD i .any)
 | [], ss, _, h, _ => by simp [CC.oa] at h; subst h; simp [eB]
 | o :: r, ss, hm, h, hk => by
  simp only [CC.oa] at h
  split at h
  ·rename_i a l h1 h2
   simp only [Option.some.injEq] at h
   subst h
   simp only [rb] at hk
   obtain ⟨b1, b2, b3⟩ := dY hρ r l (fun o ho => hm o (.tail _ ho)) h2 hk.2
   refine ⟨by simp [b1], by simp [eB, b2], fun i hi => ?_⟩
   cases i with
   | zero => simpa [eB] using hρ o (hm o (.head _)) a h1 hk.1
   | succ i => simpa [eB] using b3 i (by simpa [eB] using hi)
  ·cases h
theorem rN (off : Nat) : ∀ (new : List Value) (st : Nat) (acc : Array Value), off + st + new.length ≤ acc.size →
  ((new.zipIdx st).foldl (fun cs (c, j) => cs.setIfInBounds (off + j) c) acc).size = acc.size ∧
  ∀ q, ((new.zipIdx st).foldl (fun cs (c, j) => cs.setIfInBounds (off + j) c) acc)[q]? = if off + st ≤ q ∧ q < off + st + new.length then new[q - (off + st)]? else acc[q]?
 | [], st, acc, _ => ⟨by simp, fun q => by simp; omega⟩
 | c :: r, st, acc, hb => by
  simp only [List.length_cons] at hb
  obtain ⟨h1, h2⟩ := rN off r (st + 1) (acc.setIfInBounds (off + st) c) (by simp; omega)
  refine ⟨by simpa [List.zipIdx_cons] using h1, fun q => ?_⟩
  rw [List.zipIdx_cons, List.foldl_cons, h2 q]
  simp only [List.length_cons]
  by_cases q1 : off + (st + 1) ≤ q ∧ q < off + (st + 1) + r.length
  ·rw [if_pos q1, if_pos (by omega), show q - (off + st) = (q - (off + (st + 1))) + 1 by omega]; simp
  ·rw [if_neg q1, Array.getElem?_setIfInBounds]
   by_cases q2 : off + st = q
   ·subst q2
    rw [if_pos rfl, if_pos (by omega)]
    simp
   ·rw [if_neg q2, if_neg (by omega)]
theorem mi {os' : List Operand} (hρ : qa C defs ρ ev x os') (place : Nat → Option (Nat × Nat)) (len : Nat) : ∀ (ps : List (Nat × Operand)) (ss : List (Nat × Nat × Src)),
  (∀ p ∈ ps, p.2 ∈ os') → C.parts defs place ps = some ss → tC ρ len ss → ∀ (cs : Array Value) (ds : List D), cs.size = len → RD C.ν x (.agg cs) (.agg ds) →
  ∃ cs', Instr.fill place cs (ps.map fun (i, o) => (i, ev o)) = some cs' ∧ RD C.ν x (.agg cs') (.agg (rJ ρ ds ss))
 | [], ss, _, h, _, cs, ds, _, hr => by simp [CC.parts] at h; subst h; exact ⟨cs, by simp [Instr.fill], by simpa [rJ] using hr⟩
 | (i, o) :: r, ss, hm, h, hk, cs, ds, hlen, hr => by
  simp only [CC.parts] at h
  split at h
  ·rename_i off n s l h1 h2 h3
   split at h
   ·cases h
   rename_i hn0
   simp only [Option.some.injEq] at h
   subst h
   simp only [tC] at hk
   obtain ⟨k1, k2, k3, k4⟩ := hk
   have hn : 0 < n := by omega
   have hv := hρ o (hm _ (.head _)) s h2 k1
   obtain ⟨c1, c2⟩ := hv.cells (by omega)
   have hsz : (ev o).cells.size = n := by omega
   cases hr with
   | agg _ _ hl hone hh =>
   let cs1 : Array Value := ((ev o).cells.toList.zipIdx 0).foldl (fun cs (c, j) => cs.setIfInBounds (off + j) c) cs
   have harr : (ev o).cells.zipIdx.foldl (fun cs (c, j) => cs.setIfInBounds (off + j) c) cs = cs1 := by
    rw [← Array.foldl_toList]; simp [cs1]
   have hcs1 := harr
   obtain ⟨hsz1, hgq⟩ := rN off (ev o).cells.toList 0 cs (by simp; omega)
   have hget : ∀ q, q < cs.size → cs1.getD q undef = if q < off then cs.getD q undef else if q < off + n then (ev o).cells.getD (q - off) undef else cs.getD q undef := by
    intro q hq
    have := hgq q
    rw [← bn, ← bn cs, ← bn (ev o).cells]
    simp only [List.getD, Array.getElem?_toList]
    rw [show cs1[q]? = _ from this]
    simp only [Array.length_toList, hsz, Nat.add_zero]
    by_cases q1 : q < off
    ·rw [if_pos q1, if_neg (by omega)]
    ·rw [if_neg q1]
     by_cases q2 : q < off + n
     ·rw [if_pos q2, if_pos (by omega)]; simp
     ·rw [if_neg q2, if_neg (by omega)]
   have hsz1 : cs1.size = cs.size := hsz1
   have hdlen : (over ds off (ρ s).d.cells).length = ds.length := by simp [over]; omega
   have hdget : ∀ q, q < ds.length → (over ds off (ρ s).d.cells).getD q .any = if q < off then ds.getD q .any else if q < off + n then (ρ s).d.cells.getD (q - off) .any else ds.getD q .any := by
    intro q hq
    simp only [over, List.getD, List.getElem?_append, List.length_take]
    by_cases q1 : q < off
    ·rw [if_pos (by omega), if_pos q1]; simp [List.getElem?_take, q1]
    ·rw [if_neg (by omega), if_neg q1, show q - min off ds.length = q - off by omega]
     by_cases q2 : q < off + n
     ·rw [if_pos q2, if_pos (by omega)]
     ·rw [if_neg q2, if_neg (by omega)]; simp only [List.getElem?_drop]; congr 3; omega
   have hr1 : RD C.ν x (.agg cs1) (.agg (over ds off (ρ s).d.cells)) := by
    refine .agg _ _ (by omega) (fun q hq => ?_) (fun q hq => ?_)
    ·rw [hdlen] at hq
     rw [hget q (by omega)]
     split
     ·exact hone q hq
     ·split
      ·exact (c2 (q - off) (by omega)).1
      ·exact hone q hq
    ·rw [hdlen] at hq
     rw [hget q (by omega), hdget q hq]
     split
     ·exact hh q hq
     ·split
      ·exact (c2 (q - off) (by omega)).2
      ·exact hh q hq
   obtain ⟨cs', g1, g2⟩ := mi hρ place len r l (fun p hp => hm p (.tail _ hp)) h3 k4 cs1 _ (by omega) hr1
   refine ⟨cs', ?_, by simpa [rJ] using g2⟩
   simp only [List.map_cons, Instr.fill, h1]
   rw [if_neg (by simp [hsz]; omega), hcs1]
   exact g1
  ·cases h
end
section
variable {ν : List (Nat × Nat)} {x : X} {P : Program}
theorem eE : ∀ (ks : List CK) (ds : List D), dp ks ds → ds.length = ks.length
 | [], [], _ => rfl
 | [], _ :: _, h => by simp [dp] at h
 | _ :: _, [], h => by simp [dp] at h
 | c :: r, d :: ds, h => by have := eE r ds (by simp [dp] at h; exact h.2); simp; omega
theorem fQ : ∀ (a b : List CK) (ds : List D), dp (a ++ b) ds → dp a (ds.take a.length) ∧ dp b (ds.drop a.length)
 | [], b, ds, h => by simpa [dp] using h
 | c :: r, b, [], h => by simp [dp] at h
 | c :: r, b, d :: ds, h => by
  simp only [List.cons_append, dp] at h
  obtain ⟨h1, h2⟩ := fQ r b ds h.2
  exact ⟨by simp [dp, h.1, h1], by simpa using h2⟩
theorem nR : ∀ (n : Nat) (ds es : List D), ds.length = es.length → et ds es = (et (ds.take n) (es.take n) && et (ds.drop n) (es.drop n))
 | 0, ds, es, _ => by simp [et]
 | n + 1, [], [], _ => by simp [et]
 | n + 1, [], _ :: _, h => by simp at h
 | n + 1, _ :: _, [], h => by simp at h
 | n + 1, d :: ds, e :: es, h => by
  simp only [et, List.take_succ_cons, List.drop_succ_cons]
  rw [nR n ds es (by simpa using h), Bool.and_assoc]
theorem v7 {c : CK} {d : D} (h : c.fits d) : d.cells = [d] ∧ d.isAgg = false := by
 cases c <;> cases d <;> simp_all [CK.fits, D.cells, D.isAgg]
theorem hO {c : CK} {d : D} (h : dp [c] d.cells) (ha : d.isAgg = false) : c.fits d := by
 cases d <;> simp_all [D.cells, D.isAgg, dp]
theorem mI {ds : List D} {off n : Nat} {ag : Bool} {ks : List CK} (h : dp ks ((ds.drop off).take n)) (hn : ag = false → n = 1) (hle : off + n ≤ ds.length) :
  (cut ds off n ag).cells = (ds.drop off).take n ∧ (cut ds off n ag).isAgg = ag := by
 cases ag
 ·have := hn rfl
  subst this
  have hlt : off < ds.length := by omega
  have e : (ds.drop off).take 1 = [ds.getD off .any] := by
   rw [List.drop_eq_getElem_cons hlt]; simp [List.getD, hlt, List.take]
  rw [e] at h ⊢
  cases ks with
  | nil => simp [dp] at h
  | cons c r =>
   simp only [dp] at h
   exact v7 h.1
 ·exact ⟨rfl, rfl⟩
def xi (ν : List (Nat × Nat)) (x : X) (P : Program) (n : Nat) (t : TypeId) (ks : List CK) : Prop :=
 ∀ u v d e (w : World), RD ν x u d → RD ν x v e → d.isAgg = bp P t → e.isAgg = bp P t → dp ks d.cells → dp ks e.cells →
  (Op.equalIn n t u v).run P w = .ok (et d.cells e.cells) w
theorem rR {n : Nat} {t : TypeId} {ks : List CK} (h : dF P n t = some ks) (ha : bp P t = false) : ks.length = 1 := by
 cases n with
 | zero => simp [dF] at h
 | succ n =>
  simp only [dF] at h
  unfold bp at ha
  cases hu : P.underlying t with
  | none => simp [hu] at h
  | some d => cases d <;> simp_all <;> subst h <;> rfl
theorem oE (n depth : Nat) (ih : ∀ t ks, dF P depth t = some ks → xi ν x P n t ks) (xs ys : Array Value) (ds es : List D) (h1 : RD ν x (.agg xs) (.agg ds)) (h2 : RD ν x (.agg ys) (.agg es)) (w : World) :
  ∀ (fs : List Field) (off : Nat) (ks : List CK), hX P (fun t => dF P depth t) off fs = some ks → off ≤ ds.length → off ≤ es.length → dp ks (ds.drop off) → dp ks (es.drop off) →
  (Op.eqFields n xs ys fs).run P w = .ok (et (ds.drop off) (es.drop off)) w
 | [], off, ks, hk, _, _, f1, f2 => by
  simp [hX] at hk
  subst hk
  have a := eE _ _ f1
  have b := eE _ _ f2
  have a' : ds.drop off = [] := List.eq_nil_of_length_eq_zero a
  have b' : es.drop off = [] := List.eq_nil_of_length_eq_zero b
  rw [a', b']
  simp [Op.eqFields, et]
 | f :: fs, off, ks, hk, l1, l2, f1, f2 => by
  simp only [hX] at hk
  split at hk
  ·cases hk
  ·rename_i hne
   have hname : f.name ≠ "_" := fun e => hne (.inl e)
   have hoff : f.offset = off := by
    rcases Nat.decEq f.offset off with h | h
    ·exact absurd (.inr h) hne
    ·exact h
   split at hk
   ·rename_i a b ha hb
    split at hk
    ·rename_i hlen
     obtain ⟨hlen, hnz, hund⟩ := hlen
     simp only [Option.some.injEq] at hk
     subst hk
     obtain ⟨fa1, fb1⟩ := fQ a b _ f1
     obtain ⟨fa2, fb2⟩ := fQ a b _ f2
     have la := eE _ _ f1
     have lb := eE _ _ f2
     simp only [List.length_drop, List.length_append] at la lb
     have hag : bp P f.type = false → P.cellsOf f.type = 1 := fun e => by rw [← hlen]; exact rR ha e
     obtain ⟨u, r1, r2⟩ := kE (P := P) (off := off) (n := P.cellsOf f.type) (ag := bp P f.type) w h1 (by omega) hund rfl rfl (by omega) hag
     obtain ⟨v, s1, s2⟩ := kE (P := P) (off := off) (n := P.cellsOf f.type) (ag := bp P f.type) w h2 (by omega) hund rfl rfl (by omega) hag
     rw [hlen] at fa1 fa2 fb1 fb2
     obtain ⟨c1, c2⟩ := mI (ag := bp P f.type) fa1 hag (by omega)
     obtain ⟨d1, d2⟩ := mI (ag := bp P f.type) fa2 hag (by omega)
     have he := ih f.type a ha u v _ _ w r2 s2 c2 d2 (by rw [c1]; exact fa1) (by rw [d1]; exact fa2)
     rw [List.drop_drop] at fb1 fb2
     have hrest := oE n depth ih xs ys ds es h1 h2 w fs (off + P.cellsOf f.type) b hb (by omega) (by omega) fb1 fb2
     rw [nR (P.cellsOf f.type) (ds.drop off) (es.drop off) (by simp; omega)]
     simp only [Op.eqFields, hname, ne_eq, not_false_eq_true, if_true, Sem.run_bind, hoff, r1, s1, he, Result.andThen_ok, Sem.run_ite, hrest]
     rw [c1, d1, List.drop_drop, List.drop_drop]
     cases et ((ds.drop off).take (P.cellsOf f.type)) ((es.drop off).take (P.cellsOf f.type)) <;> simp
    ·cases hk
   ·cases hk
theorem qe (n : Nat) (e : TypeId) (l : List CK) (ih : xi ν x P n e l) (hc : l.length = P.cellsOf e) (hnz : l.length ≠ 0) (hund : (P.underlying e).isNone = false) (hag : bp P e = false → P.cellsOf e = 1)
  (xs ys : Array Value) (ds es : List D) (h1 : RD ν x (.agg xs) (.agg ds)) (h2 : RD ν x (.agg ys) (.agg es)) (w : World) :
  ∀ (len j : Nat), j * P.cellsOf e ≤ ds.length → j * P.cellsOf e ≤ es.length → dp (List.replicate len l).flatten (ds.drop (j * P.cellsOf e)) → dp (List.replicate len l).flatten (es.drop (j * P.cellsOf e)) →
  (Op.eqItems n e (P.cellsOf e) xs ys (List.range' j len)).run P w = .ok (et (ds.drop (j * P.cellsOf e)) (es.drop (j * P.cellsOf e))) w
 | 0, j, _, _, f1, f2 => by
  have a := eE _ _ f1
  have b := eE _ _ f2
  have a' : ds.drop (j * P.cellsOf e) = [] := List.eq_nil_of_length_eq_zero (by simpa using a)
  have b' : es.drop (j * P.cellsOf e) = [] := List.eq_nil_of_length_eq_zero (by simpa using b)
  rw [a', b']
  simp [Op.eqItems, et]
 | len + 1, j, l1, l2, f1, f2 => by
  simp only [List.replicate_succ, List.flatten_cons] at f1 f2
  obtain ⟨fa1, fb1⟩ := fQ _ _ _ f1
  obtain ⟨fa2, fb2⟩ := fQ _ _ _ f2
  have la := eE _ _ f1
  have lb := eE _ _ f2
  simp only [List.length_drop, List.length_append] at la lb
  have hj : (j + 1) * P.cellsOf e = j * P.cellsOf e + P.cellsOf e := Nat.succ_mul _ _
  obtain ⟨u, r1, r2⟩ := kE (P := P) (off := j * P.cellsOf e) (n := P.cellsOf e) (ag := bp P e) w h1 (by omega) hund rfl rfl (by omega) hag
  obtain ⟨v, s1, s2⟩ := kE (P := P) (off := j * P.cellsOf e) (n := P.cellsOf e) (ag := bp P e) w h2 (by omega) hund rfl rfl (by omega) hag
  rw [hc] at fa1 fa2 fb1 fb2
  obtain ⟨c1, c2⟩ := mI (ag := bp P e) fa1 hag (by omega)
  obtain ⟨d1, d2⟩ := mI (ag := bp P e) fa2 hag (by omega)
  have he := ih u v _ _ w r2 s2 c2 d2 (by rw [c1]; exact fa1) (by rw [d1]; exact fa2)
  rw [List.drop_drop, ← hj] at fb1 fb2
  have hrest := qe n e l ih hc hnz hund hag xs ys ds es h1 h2 w len (j + 1) (by omega) (by omega) fb1 fb2
  rw [nR (P.cellsOf e) (ds.drop (j * P.cellsOf e)) (es.drop (j * P.cellsOf e)) (by simp; omega)]
  simp only [List.range'_succ, Op.eqItems, Sem.run_bind, r1, s1, he, Result.andThen_ok, Sem.run_ite, hrest]
  rw [c1, d1, List.drop_drop, List.drop_drop, ← hj]
  cases et ((ds.drop (j * P.cellsOf e)).take (P.cellsOf e)) ((es.drop (j * P.cellsOf e)).take (P.cellsOf e)) <;> simp
theorem ma : ∀ (depth : Nat) (t : TypeId) (ks : List CK), dF P depth t = some ks → ∀ n, depth ≤ n → xi ν x P n t ks
 | 0, t, ks, h, _, _ => by simp [dF] at h
 | depth + 1, t, ks, h, n, hn => by
  obtain ⟨n, rfl⟩ : ∃ k, n = k + 1 := ⟨n - 1, by omega⟩
  intro u v d e w r1 r2 a1 a2 f1 f2
  simp only [dF] at h
  split at h
  ·rename_i hu
   simp only [Option.some.injEq] at h
   subst h
   have hag : bp P t = false := by simp [bp, hu]
   rw [hag] at a1 a2
   have g1 := hO f1 a1
   have g2 := hO f2 a2
   cases d <;> simp only [CK.fits] at g1
   cases e <;> simp only [CK.fits] at g2
   rw [r1.eS, r2.eS, run_equalIn_bool w n t _ _ hu]
   simp [D.cells, et, Fc]
  ·rename_i k hu
   simp only [Option.some.injEq] at h
   subst h
   have hag : bp P t = false := by simp [bp, hu]
   rw [hag] at a1 a2
   have g1 := hO f1 a1
   have g2 := hO f2 a2
   cases d <;> simp only [CK.fits] at g1
   cases e <;> simp only [CK.fits] at g2
   subst g1; subst g2
   rw [r1.cx, r2.cx, run_equalIn_int w n t _ _ _ _ hu]
   simp [D.cells, et, Fc]
  ·rename_i hu
   simp only [Option.some.injEq] at h
   subst h
   have hag : bp P t = false := by simp [bp, hu]
   rw [hag] at a1 a2
   have g1 := hO f1 a1
   have g2 := hO f2 a2
   cases d <;> simp only [CK.fits] at g1
   cases e <;> simp only [CK.fits] at g2
   rw [r1.fj.1, r2.fj.1, run_equalIn_string w n t _ _ hu]
   simp [D.cells, et, Fc, ByteArray.toList_eq]
  ·rename_i fs hu
   split at h
   ·cases h
   ·rename_i hst
    have hag : bp P t = true := by simp [bp, hu]
    rw [hag] at a1 a2
    cases d <;> simp only [D.isAgg, Bool.false_eq_true] at a1
    cases e <;> simp only [D.isAgg, Bool.false_eq_true] at a2
    have hf : P.fieldsOf t = fs := by simp [Program.fieldsOf, hu]
    cases r1 with
    | agg xs _ p1 p2 p3 =>
     cases r2 with
     | agg ys _ q1 q2 q3 =>
      rw [run_equalIn_struct w n t xs ys (by rw [hf]; exact hu) (by simpa using hst), hf]
      have := oE (ν := ν) (x := x) n depth (fun t ks hk => ma depth t ks hk n (by omega)) xs ys _ _ (.agg xs _ p1 p2 p3) (.agg ys _ q1 q2 q3) w fs.toList 0 ks h (by simp) (by simp) (by simpa [D.cells] using f1) (by simpa [D.cells] using f2)
      simpa [D.cells] using this
  ·rename_i len e' hu
   split at h
   ·rename_i l hl
    split at h
    ·rename_i hc
     obtain ⟨hc, hnz, hund⟩ := hc
     simp only [Option.some.injEq] at h
     subst h
     have hag : bp P t = true := by simp [bp, hu]
     rw [hag] at a1 a2
     cases d <;> simp only [D.isAgg, Bool.false_eq_true] at a1
     cases e <;> simp only [D.isAgg, Bool.false_eq_true] at a2
     obtain ⟨i, hi, _⟩ := kd (P := P) (t := e') (by omega)
     cases r1 with
     | agg xs _ p1 p2 p3 =>
      cases r2 with
      | agg ys _ q1 q2 q3 =>
       rw [run_equalIn_array w n xs ys hu hi, List.range_eq_range']
       have := qe (ν := ν) (x := x) n e' l (ma depth e' l hl n (by omega)) hc hnz hund (fun e => by rw [← hc]; exact rR hl e) xs ys _ _ (.agg xs _ p1 p2 p3) (.agg ys _ q1 q2 q3) w len 0 (by simp) (by simp) (by simpa [D.cells] using f1) (by simpa [D.cells] using f2)
       simpa [D.cells] using this
    ·cases h
   ·cases h
  ·cases h
end
end Go.Abs
end
