/- A part of the proofs of the statements of package linchpinlaw33: AbsD, AbsC, AbsR, AbsO, AbsP, AbsQ. -/
import Derived.Attr
import Derived.ChangeKeysEq
import Derived.Deep.AppendSrc
import Derived.WalkKit
import GoSem.Dispatch
import GoSem.Step
set_option linter.all false
section
namespace Go.Abs
inductive D where
  | any
  | bool (b : Bool)
  | int (k : IntKind) (n : Int)
  | str (s : List UInt8)
  | agg (cs : List D)
  | tup (ds : List D)
  | nils
  | sl (k : Nat) (es : List D)
  | ref (k : Nat) (es : List D) (i o : Nat)
  | ptr (l k i o : Nat)
  | own (l k i n : Nat)
  | nilp
  | fn (f : Nat) (caps : List D)
  | nilf
  | it (l : Nat)
  deriving Inhabited
inductive Src where
  | s (n : Nat)
  | l (p : Nat)
  | c (d : D)
  deriving Inhabited
/-- the shape of a cell of a type: a slice of elements of k cells; a pointer; anything else -/
inductive Sh where
  | a
  | sl (k : Nat) (cs : List Sh)
  | pt (cs : List Sh)
  deriving Inhabited
/-- kinds of cells that '==' compares -/
inductive CK where
  | b | i (k : IntKind) | s
  deriving Inhabited
inductive Ins where
  | mv (x : Src)
  | pick (c a b : Src)
  | box (k : Nat) (x : Src)
  | build (z : List D) (parts : List (Nat × Nat × Src))
  | bsl (k : Nat) (z : D) (n : Nat) (parts : List (Nat × Src))
  | ld (n : Nat) (ag : Bool) (p : Src)
  | st (n : Nat) (p v : Src)
  | nilck (x : Src)
  | bin (op : BinOp) (x y : Src)
  | eqA (neg ag : Bool) (ks : List CK) (x y : Src)
  | un (op : UnOp) (x : Src)
  | cvi (k : IntKind) (x : Src)
  | s2b (x : Src)
  | b2s (x : Src)
  | i2s (x : Src)
  | mkf (f : Nat) (caps : List Src)
  | mks (k : Nat) (z : D) (ln cp : Src)
  | slS (x : Src) (lo hi : Option Src)
  | slA (k : Nat) (x : Src) (lo hi : Option Src)
  | fa (off : Nat) (p : Src)
  | fld (off n : Nat) (ag : Bool) (x : Src)
  | ia (k : Nat) (x i : Src)
  | iaP (n k : Nat) (x i : Src)
  | ixS (x i : Src)
  | ixA (n k : Nat) (ag : Bool) (x i : Src)
  | ext (x : Src) (i : Nat)
  | len (x : Src)
  | lenS (x : Src)
  | app (k : Nat) (x y : Src)
  | call (f : Nat) (args : List Src) (sh : List (List Sh))
  | callv (f : Src) (args : List Src) (sh : List (List Sh))
  | callM (f : Nat) (args : List Src)
  | ldI (n : Nat) (ag : Bool) (p : Src)
  | callF (f : Nat) (r : Src) (args : List Src) (sh : List (List Sh))
  | appN (k : Nat) (y : Src)
  | bslI (k : Nat) (z : D) (n : Nat) (parts : List (Nat × Src))
  | rng (x : Src)
  | nxt (x : Src)
  deriving Inhabited
structure GI where
  i : Ins
  g : Option (Nat × Bool)
  deriving Inhabited
inductive AC where
  | reg (draw : Bool) (ins : List GI) (cm : List (Nat × Nat))
  | seq (a b : AC)
  | cond (c : Src) (a b : AC)
  | block (id : Nat) (a : AC)
  | loop (a : AC)
  | exit (id : Nat)
  | ret
  | skip
  deriving Inhabited
/-- a result: a slot; or a variable in memory behind a slot (n cells, a struct or array or not) -/
structure ARes where
  s : Nat
  mem : Option (Nat × Bool)
  deriving Inhabited
structure AFunc where
  np : Nat
  ns : Nat
  res : List ARes
  rsh : List (List Sh)
  body : AC
  deriving Inhabited
@[go_sem] def D.cells : D → List D
  | .agg cs => cs
  | .any => []
  | .tup _ => []
  | d => [d]
@[go_sem] def D.isBool : D → Bool
  | .bool _ => true
  | _ => false
@[go_sem] def D.isAgg : D → Bool
  | .agg _ => true
  | _ => false
mutual
/-- names no memory of the call's own -/
@[go_sem] def D.noLoc : D → Bool
  | .agg cs => noLocs cs
  | .tup cs => noLocs cs
  | .fn _ cs => noLocs cs
  | .ptr .. => false
  | .own .. => false
  | .it _ => false
  | _ => true
@[go_sem] def noLocs : List D → Bool
  | [] => true
  | d :: r => d.noLoc && noLocs r
end
mutual
/-- names no memory -/
@[go_sem] def D.memFree : D → Bool
  | .agg cs => memFrees cs
  | .tup cs => memFrees cs
  | .fn _ cs => memFrees cs
  | .ptr .. => false
  | .own .. => false
  | .it _ => false
  | .sl .. => false
  | .ref .. => false
  | _ => true
@[go_sem] def memFrees : List D → Bool
  | [] => true
  | d :: r => d.memFree && memFrees r
end
inductive Blk where
  | buf (k : Nat) (es : List D)
  | iter (s : List UInt8) (pos : Nat)
  deriving Inhabited
structure St where
  nx : Nat
  m : List (Nat × Blk)
@[go_sem] def look : List (Nat × Blk) → Nat → Option Blk
  | [], _ => none
  | (a, b) :: r, l => if a = l then some b else look r l
@[go_sem] def setL : List (Nat × Blk) → Nat → Blk → List (Nat × Blk)
  | [], l, b => [(l, b)]
  | (a, x) :: r, l, b => if a = l then (a, b) :: r else (a, x) :: setL r l b
@[go_sem] def delL : List (Nat × Blk) → Nat → List (Nat × Blk)
  | [], _ => []
  | (a, x) :: r, l => if a = l then delL r l else (a, x) :: delL r l
structure Ent where
  ok : Bool
  d : D
@[go_sem] def Ent.un : Ent := ⟨true, .any⟩
@[go_sem] def Src.ev (env vs : List Ent) : Src → Ent
  | .s n => env.getD n .un
  | .l p => vs.getD p .un
  | .c d => ⟨true, d⟩
structure Ctx where
  pre : Nat → List D → Prop
  val : Nat → List D → D
  tr : Nat → List D → St → (D → St → Prop) → Prop
  /-- methods that change what their receiver points to: what must hold, the answer, what the receiver points to then -/
  fp : Nat → D → List D → Prop
  fv : Nat → D → List D → D
  fs : Nat → D → List D → D
  /-- the names below this one are the caller's -/
  lo : Nat
@[go_sem] def bufEls (m : List (Nat × Blk)) (l : Nat) : List D := match look m l with
  | some (.buf _ es) => es
  | _ => []
@[go_sem] def bufOK (m : List (Nat × Blk)) (l k n : Nat) : Prop := match look m l with
  | some (.buf k' es) => k = k' ∧ n ≤ es.length
  | _ => False
/-- elements of a slice value (of a string: its bytes) -/
@[go_sem] def els (m : List (Nat × Blk)) : D → List D
  | .sl _ es => es
  | .own l _ i n => ((bufEls m l).drop i).take n
  | .str s => s.map fun b => .int .u8 b.toNat
  | _ => []
@[go_sem] def elsO (m : List (Nat × Blk)) (k : Nat) : D → Prop
  | .sl k' _ => k' = k
  | .own l k' i n => k' = k ∧ bufOK m l k (i + n)
  | .str _ => k = 1
  | .nils => True
  | _ => False
mutual
@[go_sem] def purC (m : List (Nat × Blk)) : Sh → D → D
  | .a, d => match d with
    | .nils => .sl 0 []
    | d => d
  | .sl k cs, d => match d with
    | .nils => .sl k []
    | .own l k' i c => .sl k' ((((bufEls m l).drop i).take c).map (purV m cs))
    | d => d
  | .pt cs, d => match d with
    | .ptr l k i o => .ref k ((bufEls m l).map (purV m cs)) i o
    | d => d
@[go_sem] def purV (m : List (Nat × Blk)) : List Sh → D → D
  | [], d => d
  | s :: r, d => match d with
    | .agg cs => .agg (purL m (s :: r) cs)
    | d => purC m s d
@[go_sem] def purL (m : List (Nat × Blk)) : List Sh → List D → List D
  | [], ds => ds
  | s :: r, ds => match ds with
    | [] => []
    | d :: ds => purC m s d :: purL m r ds
end
mutual
@[go_sem] def purCO (m : List (Nat × Blk)) : Sh → D → Prop
  | .a, d => d.noLoc = true
  | .sl _ cs, d => match d with
    | .own l k' i c => bufOK m l k' (i + c) ∧ ∀ e ∈ ((bufEls m l).drop i).take c, purVO m cs e
    | d => d.noLoc = true
  | .pt cs, d => match d with
    | .ptr l k _ _ => bufOK m l k 0 ∧ ∀ e ∈ bufEls m l, purVO m cs e
    | d => d.noLoc = true
@[go_sem] def purVO (m : List (Nat × Blk)) : List Sh → D → Prop
  | [], d => d.noLoc = true
  | s :: r, d => match d with
    | .agg cs => purLO m (s :: r) cs
    | d => purCO m s d
@[go_sem] def purLO (m : List (Nat × Blk)) : List Sh → List D → Prop
  | [], ds => noLocs ds = true
  | s :: r, ds => match ds with
    | [] => True
    | d :: ds => purCO m s d ∧ purLO m r ds
end
@[go_sem] def binV (op : BinOp) : D → D → D
  | .int k a, .int _ b => match op with
    | .add => .int k (k.wrap (a + b))
    | .sub => .int k (k.wrap (a - b))
    | .mul => .int k (k.wrap (a * b))
    | .quo => .int k (k.wrap (a.tdiv b))
    | .rem => .int k (a.tmod b)
    | .eql => .bool (a == b) | .neq => .bool (a != b) | .lss => .bool (decide (a < b)) | .leq => .bool (decide (a ≤ b)) | .gtr => .bool (decide (b < a)) | .geq => .bool (decide (b ≤ a))
    | .shl => .int k (k.wrap (a * 2 ^ (min b.toNat k.bits)))
    | .shr => .int k (a.fdiv (2 ^ (min b.toNat k.bits)))
    | .and => .int k (k.wrap (((BitVec.ofInt k.bits a) &&& (BitVec.ofInt k.bits b)).toNat))
    | .or => .int k (k.wrap (((BitVec.ofInt k.bits a) ||| (BitVec.ofInt k.bits b)).toNat))
    | .xor => .int k (k.wrap (((BitVec.ofInt k.bits a) ^^^ (BitVec.ofInt k.bits b)).toNat))
    | .andNot => .int k (k.wrap (((BitVec.ofInt k.bits a) &&& ~~~(BitVec.ofInt k.bits b)).toNat))
  | .str a, .str b => match op with
    | .add => .str (a ++ b)
    | .eql => .bool (a == b) | .neq => .bool (!(a == b)) | .lss => .bool (Op.bytesLess a b) | .geq => .bool (!(Op.bytesLess a b))
    | .leq => .bool (Op.bytesLess a b || a == b) | .gtr => .bool (!(Op.bytesLess a b || a == b))
    | _ => .any
  | _, _ => .any
@[go_sem] def binO (op : BinOp) : D → D → Prop
  | .int k a, .int k' b => match op with
    | .quo => k = k' ∧ b ≠ 0
    | .rem => k = k' ∧ b ≠ 0
    | .shl => 0 ≤ b
    | .shr => 0 ≤ b
    | _ => k = k'
  | .str a, .str b => match op with
    | .add => a.length + b.length ≤ 9223372036854775807
    | .eql => True | .neq => True | .lss => True | .geq => True | .leq => True | .gtr => True
    | _ => False
  | _, _ => False
@[go_sem] def D.pick (b : Bool) : D → D → D
  | .bool x, .bool y => .bool (bif b then x else y)
  | x, y => bif b then x else y
@[go_sem] def cut (cs : List D) (o n : Nat) (ag : Bool) : D := bif ag then .agg ((cs.drop o).take n) else cs.getD o .any
@[go_sem] def ldEl (e : D) (k n o : Nat) (ag : Bool) : D := bif (n == k) && (e.isAgg == ag) then e else cut e.cells o n ag
@[go_sem] def ldV (m : List (Nat × Blk)) (n : Nat) (ag : Bool) : D → D
  | .ptr l k i o => ldEl ((bufEls m l).getD i .any) k n o ag
  | .ref k es i o => ldEl (es.getD i .any) k n o ag
  | _ => .any
@[go_sem] def ldO (m : List (Nat × Blk)) (n : Nat) : D → Prop
  | .ptr l k i o => bufOK m l k (i + 1) ∧ o + n ≤ k
  | .ref k es i o => i < es.length ∧ o + n ≤ k
  | _ => False
mutual
@[go_sem] def eqD : D → D → Bool
  | .bool a, .bool b => a == b
  | .int _ a, .int _ b => a == b
  | .str a, .str b => a == b
  | _, _ => false
@[go_sem] def eqDs : List D → List D → Bool
  | [], [] => true
  | a :: r, b :: s => eqD a b && eqDs r s
  | _, _ => false
end
@[go_sem] def CK.fits : CK → D → Prop
  | .b, .bool _ => True
  | .i k, .int k' _ => k' = k
  | .s, .str _ => True
  | _, _ => False
@[go_sem] def fitsK : List CK → List D → Prop
  | [], [] => True
  | c :: r, d :: s => c.fits d ∧ fitsK r s
  | _, _ => False
/-- cells overwritten from o on -/
@[go_sem] def over (cs : List D) (o : Nat) (new : List D) : List D := cs.take o ++ (new ++ cs.drop (o + new.length))
@[go_sem] def stEl (e : D) (k n o : Nat) (v : D) : D := bif n == k then v else .agg (over e.cells o v.cells)
@[go_sem] def fillP (ρ : Src → Ent) (cs : List D) : List (Nat × Nat × Src) → List D
  | [] => cs
  | (o, _, s) :: r => fillP ρ (over cs o (ρ s).d.cells) r
@[go_sem] def fillO (ρ : Src → Ent) (len : Nat) : List (Nat × Nat × Src) → Prop
  | [] => True
  | (o, n, s) :: r => (ρ s).ok = true ∧ (ρ s).d.cells.length = n ∧ o + n ≤ len ∧ fillO ρ len r
@[go_sem] def fillI (ρ : Src → Ent) (es : List D) : List (Nat × Src) → List D
  | [] => es
  | (i, s) :: r => fillI ρ (es.set i (ρ s).d) r
@[go_sem] def fillIO (ρ : Src → Ent) (k n : Nat) : List (Nat × Src) → Prop
  | [] => True
  | (i, s) :: r => i < n ∧ (ρ s).ok = true ∧ (ρ s).d.cells.length = k ∧ fillIO ρ k n r
@[go_sem] def D.nat : D → Nat
  | .int _ n => n.toNat
  | _ => 0
@[go_sem] def bnd (o : Option D) (dflt : Nat) : Nat := match o with
  | some (.int _ n) => n.toNat
  | _ => dflt
@[go_sem] def bndO (o : Option D) (hi : Nat) : Prop := match o with
  | none => True
  | some (.int _ n) => 0 ≤ n ∧ n ≤ hi
  | _ => False
@[go_sem] def okO (ρ : Src → Ent) : Option Src → Prop
  | none => True
  | some s => (ρ s).ok = true
@[go_sem] def dO (ρ : Src → Ent) : Option Src → Option D
  | none => none
  | some s => some (ρ s).d
@[go_sem] def oks (ρ : Src → Ent) : List Src → Prop
  | [] => True
  | s :: r => (ρ s).ok = true ∧ oks ρ r
@[go_sem] def dds (ρ : Src → Ent) : List Src → List D
  | [] => []
  | s :: r => (ρ s).d :: dds ρ r
@[go_sem] def D.u8 : D → UInt8
  | .int _ n => UInt8.ofNat n.toNat
  | _ => 0
@[go_sem] def D.isU8 : D → Prop
  | .int k n => k = .u8 ∧ 0 ≤ n ∧ n < 256
  | _ => False
def decL (s : List UInt8) (pos : Nat) : Nat × Nat := Utf8.decode ⟨⟨s⟩⟩ pos
def runeL (n : Int) : List UInt8 := (Utf8.encode n).data.toList
@[go_sem] def purs (m : List (Nat × Blk)) : List (List Sh) → List D → List D
  | _, [] => []
  | [], d :: r => purV m [.a] d :: purs m [] r
  | s :: ss, d :: r => purV m s d :: purs m ss r
@[go_sem] def pursO (m : List (Nat × Blk)) : List (List Sh) → List D → Prop
  | _, [] => True
  | [], d :: r => purVO m [.a] d ∧ pursO m [] r
  | s :: ss, d :: r => purVO m s d ∧ pursO m ss r
@[go_sem] def Ins.val (Γ : Ctx) (ρ : Src → Ent) (m : List (Nat × Blk)) (L : Nat) : Ins → D
  | .mv x => (ρ x).d
  | .pick c a b => match (ρ c).d with | .bool t => D.pick t (ρ a).d (ρ b).d | _ => .any
  | .box k _ => .ptr L k 0 0
  | .build z ps => .agg (fillP ρ z ps)
  | .bsl k _ n _ => .own L k 0 n
  | .ld n ag p => ldV m n ag (ρ p).d
  | .st _ _ _ => .any
  | .nilck x => (ρ x).d
  | .bin op x y => binV op (ρ x).d (ρ y).d
  | .eqA neg _ _ x y => .bool (bif neg then !(eqDs (ρ x).d.cells (ρ y).d.cells) else eqDs (ρ x).d.cells (ρ y).d.cells)
  | .un op x => match op, (ρ x).d with
    | .not, .bool b => .bool (!b)
    | .neg, .int k n => .int k (k.wrap (0 - n))
    | _, _ => .any
  | .cvi k x => match (ρ x).d with | .int _ n => .int k (k.wrap n) | _ => .any
  | .s2b x => match (ρ x).d with | .str s => .own L 1 0 s.length | _ => .any
  | .b2s x => .str ((els m (ρ x).d).map D.u8)
  | .i2s x => match (ρ x).d with | .int _ n => .str (runeL n) | _ => .any
  | .mkf f caps => .fn f (dds ρ caps)
  | .mks k _ ln _ => .own L k 0 (ρ ln).d.nat
  | .slS x lo hi => match (ρ x).d with
    | .str s => .str ((s.take (bnd (dO ρ hi) s.length)).drop (bnd (dO ρ lo) 0))
    | _ => .any
  | .slA _ x lo hi => match (ρ x).d with
    | .sl k es => .sl k ((es.take (bnd (dO ρ hi) es.length)).drop (bnd (dO ρ lo) 0))
    | .own l k i n => .own l k (i + bnd (dO ρ lo) 0) (bnd (dO ρ hi) n - bnd (dO ρ lo) 0)
    | .nils => .nils
    | _ => .any
  | .fa off p => match (ρ p).d with
    | .ptr l k i o => .ptr l k i (o + off)
    | .ref k es i o => .ref k es i (o + off)
    | _ => .any
  | .fld off n ag x => cut (ρ x).d.cells off n ag
  | .ia _ x i => match (ρ x).d, (ρ i).d with
    | .sl k es, .int _ n => .ref k es n.toNat 0
    | .own l k j _, .int _ n => .ptr l k (j + n.toNat) 0
    | _, _ => .any
  | .iaP _ k x i => match (ρ x).d, (ρ i).d with
    | .ptr l k' j o, .int _ n => .ptr l k' j (o + n.toNat * k)
    | .ref k' es j o, .int _ n => .ref k' es j (o + n.toNat * k)
    | _, _ => .any
  | .ixS x i => match (ρ x).d, (ρ i).d with
    | .str s, .int _ n => .int .u8 (s.getD n.toNat 0).toNat
    | _, _ => .any
  | .ixA _ k ag x i => match (ρ i).d with
    | .int _ n => cut (ρ x).d.cells (n.toNat * k) k ag
    | _ => .any
  | .ext x i => match (ρ x).d with | .tup ds => ds.getD i .any | _ => .any
  | .len x => match (ρ x).d with
    | .sl _ es => .int .i64 es.length
    | .own _ _ _ n => .int .i64 n
    | .nils => .int .i64 0
    | _ => .any
  | .lenS x => match (ρ x).d with
    | .str s => .int .i64 s.length
    | _ => .any
  | .app k x y => match (ρ x).d with
    | .own _ _ _ n => .own L k 0 (n + (els m (ρ y).d).length)
    | _ => .own L k 0 (els m (ρ y).d).length
  | .call f args sh => Γ.val f (purs m sh (dds ρ args))
  | .callv f args sh => match (ρ f).d with
    | .fn n caps => Γ.val n (purs m sh (dds ρ args ++ caps))
    | _ => .any
  | .callM _ _ => .any
  | .ldI n ag p => match (ρ p).d with
    | .ref k es i o => ldEl (es.getD i .any) k n o ag
    | _ => .any
  | .appN k y => .own L k 0 (els m (ρ y).d).length
  | .bslI k z n ps => .sl k (fillI ρ (List.replicate n z) ps)
  | .callF f r args sh => match (ρ r).d with
    | .ptr l _ _ _ => Γ.fv f ((bufEls m l).getD 0 .any) (purs [] sh (dds ρ args))
    | _ => .any
  | .rng _ => .it L
  | .nxt x => match (ρ x).d with
    | .it l => match look m l with
      | some (.iter s pos) => bif decide (pos < s.length) then .tup [.bool true, .int .i64 pos, .int .i32 (decL s pos).1] else .tup [.bool false]
      | _ => .any
    | _ => .any
/-- a call's answer can be held against later writes -/
@[go_sem] def callOK (args : List D) (r : D) : Bool := noLocs args || r.memFree
@[go_sem] def Ins.obl (Γ : Ctx) (ρ : Src → Ent) (m : List (Nat × Blk)) : Ins → Prop
  | .mv x => (ρ x).ok = true
  | .pick c a b => (ρ c).ok = true ∧ match (ρ c).d with
    | .bool t => (t = true → (ρ a).ok = true) ∧ (t = false → (ρ b).ok = true)
    | _ => False
  | .box k x => (ρ x).ok = true ∧ (ρ x).d.cells.length = k
  | .build z ps => fillO ρ z.length ps
  | .bsl k z n ps => z.cells.length = k ∧ fillIO ρ k n ps
  | .ld n _ p => (ρ p).ok = true ∧ ldO m n (ρ p).d
  | .st n p v => (ρ p).ok = true ∧ (ρ v).ok = true ∧ (ρ v).d.cells.length = n ∧ match (ρ p).d with
    | .ptr l k i o => bufOK m l k (i + 1) ∧ o + n ≤ k
    | _ => False
  | .nilck x => (ρ x).ok = true ∧ match (ρ x).d with | .ptr .. => True | .ref .. => True | _ => False
  | .bin op x y => (ρ x).ok = true ∧ (ρ y).ok = true ∧ binO op (ρ x).d (ρ y).d
  | .eqA _ ag ks x y => (ρ x).ok = true ∧ (ρ y).ok = true ∧ (ρ x).d.isAgg = ag ∧ (ρ y).d.isAgg = ag ∧ fitsK ks (ρ x).d.cells ∧ fitsK ks (ρ y).d.cells
  | .un op x => (ρ x).ok = true ∧ match op, (ρ x).d with
    | .not, .bool _ => True
    | .neg, .int _ _ => True
    | _, _ => False
  | .cvi _ x => (ρ x).ok = true ∧ match (ρ x).d with | .int _ _ => True | _ => False
  | .s2b x => (ρ x).ok = true ∧ match (ρ x).d with | .str _ => True | _ => False
  | .b2s x => (ρ x).ok = true ∧ (match (ρ x).d with | .str _ => False | _ => True) ∧ elsO m 1 (ρ x).d ∧ ∀ e ∈ els m (ρ x).d, e.isU8
  | .i2s x => (ρ x).ok = true ∧ match (ρ x).d with | .int _ _ => True | _ => False
  | .mkf _ caps => oks ρ caps
  | .mks k z ln cp => (ρ ln).ok = true ∧ (ρ cp).ok = true ∧ z.cells.length = k ∧ match (ρ ln).d, (ρ cp).d with
    | .int _ n, .int _ c => 0 ≤ n ∧ n ≤ c ∧ c ≤ 1073741824
    | _, _ => False
  | .slS x lo hi => (ρ x).ok = true ∧ okO ρ lo ∧ okO ρ hi ∧ match (ρ x).d with
    | .str s => bndO (dO ρ hi) s.length ∧ bndO (dO ρ lo) (bnd (dO ρ hi) s.length)
    | _ => False
  | .slA k x lo hi => (ρ x).ok = true ∧ okO ρ lo ∧ okO ρ hi ∧ match (ρ x).d with
    | .sl k' es => k' = k ∧ bndO (dO ρ hi) es.length ∧ bndO (dO ρ lo) (bnd (dO ρ hi) es.length)
    | .own _ k' _ n => k' = k ∧ bndO (dO ρ hi) n ∧ bndO (dO ρ lo) (bnd (dO ρ hi) n)
    | .nils => bndO (dO ρ hi) 0 ∧ bndO (dO ρ lo) 0
    | _ => False
  | .fa off p => (ρ p).ok = true ∧ match (ρ p).d with | .ptr .. => True | .ref .. => True | _ => False
  | .fld off n ag x => (ρ x).ok = true ∧ match (ρ x).d with | .agg cs => off + n ≤ cs.length ∧ (ag = false → n = 1) | _ => False
  | .ia k x i => (ρ x).ok = true ∧ (ρ i).ok = true ∧ match (ρ x).d, (ρ i).d with
    | .sl k' es, .int _ n => k' = k ∧ 0 ≤ n ∧ n < es.length
    | .own _ k' _ c, .int _ n => k' = k ∧ 0 ≤ n ∧ n < c
    | _, _ => False
  | .iaP n k x i => (ρ x).ok = true ∧ (ρ i).ok = true ∧ match (ρ x).d, (ρ i).d with
    | .ptr .., .int _ c => 0 ≤ c ∧ c < n
    | .ref .., .int _ c => 0 ≤ c ∧ c < n
    | _, _ => False
  | .ixS x i => (ρ x).ok = true ∧ (ρ i).ok = true ∧ match (ρ x).d, (ρ i).d with
    | .str s, .int _ n => 0 ≤ n ∧ n < s.length
    | _, _ => False
  | .ixA n k ag x i => (ρ x).ok = true ∧ (ρ i).ok = true ∧ (ag = false → k = 1) ∧ match (ρ x).d, (ρ i).d with
    | .agg cs, .int _ c => 0 ≤ c ∧ c < n ∧ cs.length = n * k
    | _, _ => False
  | .ext x i => (ρ x).ok = true ∧ match (ρ x).d with | .tup ds => i < ds.length | _ => False
  | .len x => (ρ x).ok = true ∧ match (ρ x).d with | .sl _ _ => True | .own .. => True | .nils => True | _ => False
  | .lenS x => (ρ x).ok = true ∧ match (ρ x).d with | .str _ => True | _ => False
  | .app k x y => (ρ x).ok = true ∧ (ρ y).ok = true ∧ elsO m k (ρ y).d ∧ match (ρ x).d with
    | .own l k' i n => k' = k ∧ bufOK m l k (i + n) ∧ n + (els m (ρ y).d).length ≤ 1073741824
    | .nils => (els m (ρ y).d).length ≤ 1073741824
    | _ => False
  | .call f args sh => oks ρ args ∧ pursO m sh (dds ρ args) ∧ Γ.pre f (purs m sh (dds ρ args)) ∧ callOK (dds ρ args) (Γ.val f (purs m sh (dds ρ args))) = true
  | .callv f args sh => (ρ f).ok = true ∧ oks ρ args ∧ match (ρ f).d with
    | .fn n caps => pursO m sh (dds ρ args ++ caps) ∧ Γ.pre n (purs m sh (dds ρ args ++ caps)) ∧ callOK (dds ρ args ++ caps) (Γ.val n (purs m sh (dds ρ args ++ caps))) = true
    | _ => False
  | .callM _ args => oks ρ args
  | .ldI n _ p => (ρ p).ok = true ∧ match (ρ p).d with
    | .ref k es i o => i < es.length ∧ o + n ≤ k
    | _ => False
  | .appN k y => (ρ y).ok = true ∧ elsO m k (ρ y).d ∧ (els m (ρ y).d).length ≤ 1073741824
  | .bslI k z n ps => z.cells.length = k ∧ fillIO ρ k n ps ∧ noLocs (fillI ρ (List.replicate n z) ps) = true
  | .callF f r args sh => (ρ r).ok = true ∧ oks ρ args ∧ noLocs (dds ρ args) = true ∧ match (ρ r).d with
    | .ptr l k i o => i = 0 ∧ o = 0 ∧ bufOK m l k 1 ∧ (bufEls m l).length = 1 ∧ ((bufEls m l).getD 0 .any).noLoc = true ∧ Γ.fp f ((bufEls m l).getD 0 .any) (purs [] sh (dds ρ args))
    | _ => False
  | .rng x => (ρ x).ok = true ∧ match (ρ x).d with | .str _ => True | _ => False
  | .nxt x => (ρ x).ok = true ∧ match (ρ x).d with
    | .it l => match look m l with
      | some (.iter _ _) => True
      | _ => False
    | _ => False
@[go_sem] def Src.isS : Src → Bool
  | .s _ => true
  | _ => false
/-- where the order is drawn, of values from before alone -/
@[go_sem] def Ins.asm (draw : Bool) (ρ : Src → Ent) : Ins → Prop
  | .len x => bif draw && !x.isS then True else (ρ x).ok = true → match (ρ x).d with
    | .sl _ es => es.length ≤ 9223372036854775807
    | .own _ _ _ n => n ≤ 9223372036854775807
    | _ => True
  | .lenS x => bif draw && !x.isS then True else (ρ x).ok = true → match (ρ x).d with
    | .str s => s.length ≤ 9223372036854775807
    | _ => True
  | _ => True
@[go_sem] def Ins.eff (Γ : Ctx) (ρ : Src → Ent) (m : List (Nat × Blk)) (L : Nat) : Ins → List (Nat × Blk)
  | .box k x => setL m L (.buf k [(ρ x).d])
  | .bsl k z n ps => setL m L (.buf k (fillI ρ (List.replicate n z) ps))
  | .mks k z ln _ => setL m L (.buf k (List.replicate (ρ ln).d.nat z))
  | .s2b x => match (ρ x).d with
    | .str s => setL m L (.buf 1 (s.map fun b => .int .u8 b.toNat))
    | _ => m
  | .st n p v => match (ρ p).d with
    | .ptr l k i o => setL m l (.buf k ((bufEls m l).set i (stEl ((bufEls m l).getD i .any) k n o (ρ v).d)))
    | _ => m
  | .app k x y => match (ρ x).d with
    | .own l k' i n => setL (delL m l) L (.buf k ((((bufEls m l).drop i).take n) ++ els m (ρ y).d))
    | _ => setL m L (.buf k (els m (ρ y).d))
  | .appN k y => setL m L (.buf k (els m (ρ y).d))
  | .callF f r args sh => match (ρ r).d with
    | .ptr l k _ _ => setL m l (.buf k [Γ.fs f ((bufEls m l).getD 0 .any) (purs [] sh (dds ρ args))])
    | _ => m
  | .rng x => match (ρ x).d with
    | .str s => setL m L (.iter s 0)
    | _ => m
  | .nxt x => match (ρ x).d with
    | .it l => match look m l with
      | some (.iter s pos) => bif decide (pos < s.length) then setL m l (.iter s (pos + (decL s pos).2)) else m
      | _ => m
    | _ => m
  | _ => m
/-- the places of the call's own that it looks at or writes (none: any) -/
@[go_sem] def locOf : D → List Nat
  | .ptr l _ _ _ => [l]
  | .own l _ _ _ => [l]
  | .it l => [l]
  | _ => []
@[go_sem] def Ins.tch (ρ : Src → Ent) : Ins → Option (List Nat)
  | .ld _ _ p => some (locOf (ρ p).d)
  | .st _ p _ => some (locOf (ρ p).d)
  | .b2s x => some (locOf (ρ x).d)
  | .app _ x y => some (locOf (ρ x).d ++ locOf (ρ y).d)
  | .nxt x => some (locOf (ρ x).d)
  | .call _ args _ => bif noLocs (dds ρ args) then some [] else none
  | .callv f args _ => match (ρ f).d with
    | .fn _ caps => bif noLocs (dds ρ args ++ caps) then some [] else none
    | _ => none
  | .callM _ _ => none
  | .callF _ r _ _ => some (locOf (ρ r).d)
  | .appN _ y => some (locOf (ρ y).d)
  | _ => some []
/-- the places that it writes -/
@[go_sem] def Ins.wr (ρ : Src → Ent) (L : Nat) : Ins → List Nat
  | .box .. => [L]
  | .bsl .. => [L]
  | .mks .. => [L]
  | .s2b _ => [L]
  | .rng _ => [L]
  | .st _ p _ => locOf (ρ p).d
  | .app _ x _ => L :: locOf (ρ x).d
  | .nxt x => locOf (ρ x).d
  | .callF _ r _ _ => locOf (ρ r).d
  | .appN .. => [L]
  | _ => []
/-- may run in any order, and under a guard -/
@[go_sem] def Ins.calm : Ins → Bool
  | .st .. => false
  | .app .. => false
  | .nxt .. => false
  | .callM .. => false
  | .callF .. => false
  | _ => true
@[go_sem] def flag (vs : List Ent) : Option (Nat × Bool) → Bool
  | none => true
  | some (j, w) => (vs.getD j .un).ok && match (vs.getD j .un).d with
    | .bool b => b == w
    | _ => false
@[go_sem] def gok (vs : List Ent) (i : Ins) : Option (Nat × Bool) → Prop
  | none => True
  | some (j, _) => i.calm = true ∧ ((vs.getD j .un).ok = true → (vs.getD j .un).d.isBool = true)
/-- an operation that writes, under a guard: two ways on -/
@[go_sem] def Ins.forks (draw : Bool) (g : Option (Nat × Bool)) (i : Ins) : Bool := !draw && (!i.calm && g.isSome)
@[go_sem] def gokF (vs : List Ent) : Option (Nat × Bool) → Prop
  | none => True
  | some (j, _) => (vs.getD j .un).ok = true → (vs.getD j .un).d.isBool = true
def regW (Γ : Ctx) (draw : Bool) : List GI → (env vs : List Ent) → St → (List Ent → St → Prop) → Prop
  | [], _, vs, st, K => K vs { st with nx := st.nx + vs.length }
  | ⟨.callM f args, g⟩ :: r, env, vs, st, K =>
    gok vs (.callM f args) g ∧ oks (Src.ev env vs) args ∧
      Γ.tr f (dds (Src.ev env vs) args) { st with nx := st.nx + vs.length } fun d st' => st.nx + vs.length ≤ st'.nx ∧ regW Γ draw r env (vs ++ [⟨true, d⟩]) { st' with nx := st'.nx - vs.length } K
  | ⟨i, g⟩ :: r, env, vs, st, K =>
    if i.forks draw g = true then
      gokF vs g ∧ (flag vs g = true → i.obl Γ (Src.ev env vs) st.m ∧
          regW Γ draw r env (vs ++ [⟨true, i.val Γ (Src.ev env vs) st.m (st.nx + vs.length)⟩]) { st with m := i.eff Γ (Src.ev env vs) st.m (st.nx + vs.length) } K) ∧
        (flag vs g = false → regW Γ draw r env (vs ++ [⟨false, .any⟩]) st K)
    else
    gok vs i g ∧ (flag vs g = true → i.obl Γ (Src.ev env vs) st.m) ∧
      ((flag vs g = true → i.asm draw (Src.ev env vs)) → ∃ d, (flag vs g = true → i.val Γ (Src.ev env vs) st.m (st.nx + vs.length) = d) ∧
        regW Γ draw r env (vs ++ [⟨flag vs g, d⟩]) { st with m := i.eff Γ (Src.ev env vs) st.m (st.nx + vs.length) } K)
mutual
@[go_sem] def fzD (l k : Nat) (es : List D) : D → D
  | .own l' k' i n => if l' = l ∧ k' = k ∧ i + n ≤ es.length then .sl k ((es.drop i).take n) else .own l' k' i n
  | .ptr l' k' i o => if l' = l ∧ k' = k then .ref k es i o else .ptr l' k' i o
  | .agg cs => .agg (fzL l k es cs)
  | .tup cs => .tup (fzL l k es cs)
  | .fn f cs => .fn f (fzL l k es cs)
  | .any => .any
  | .bool b => .bool b
  | .int k n => .int k n
  | .str s => .str s
  | .nils => .nils
  | .sl k es => .sl k es
  | .ref k es i o => .ref k es i o
  | .nilp => .nilp
  | .nilf => .nilf
  | .it l => .it l
@[go_sem] def fzL (l k : Nat) (es : List D) : List D → List D
  | [] => []
  | d :: r => fzD l k es d :: fzL l k es r
end
@[go_sem] def fzB (l k : Nat) (es : List D) : Blk → Blk
  | .buf k' es' => .buf k' (fzL l k es es')
  | b => b
@[go_sem] def fzM (l k : Nat) (es : List D) : List (Nat × Blk) → List (Nat × Blk)
  | [] => []
  | (a, b) :: r => (a, fzB l k es b) :: fzM l k es r
@[go_sem] def fzE (l k : Nat) (es : List D) : List Ent → List Ent
  | [] => []
  | ⟨ok, d⟩ :: r => ⟨ok, fzD l k es d⟩ :: fzE l k es r
/-- a block is never written any more -/
@[go_sem] def frz (l : Nat) (s : List Ent × List (Nat × Blk)) : List Ent × List (Nat × Blk) := match look s.2 l with
  | some (.buf k es) => bif noLocs es then (fzE l k es s.1, fzM l k es (delL s.2 l)) else s
  | _ => s
@[go_sem] def frzs : List Nat → List Ent × List (Nat × Blk) → List Ent × List (Nat × Blk)
  | [], s => s
  | l :: r, s => frzs r (frz l s)
inductive Ex where
  | normal | exit (id : Nat) | ret
@[go_sem] def commit (env vs : List Ent) : List (Nat × Nat) → List Ent
  | [] => env
  | (s, p) :: r => commit (env.set s (vs.getD p .un)) vs r
@[go_sem] def rnN (lo : Nat) (σ : List (Nat × Nat)) (l : Nat) : Option Nat := bif Nat.blt l lo then some l else match σ with
  | [] => none
  | (a, b) :: r => bif Nat.beq a l then some b else rnN lo r l
@[go_sem] def rnL (lo : Nat) (σ : List (Nat × Nat)) (l : Nat) (f : Nat → D) : Option D := match rnN lo σ l with
  | some l' => some (f l')
  | none => none
mutual
@[go_sem] def rnD (lo : Nat) (σ : List (Nat × Nat)) : D → Option D
  | .own l k i n => rnL lo σ l fun l => .own l k i n
  | .ptr l k i o => rnL lo σ l fun l => .ptr l k i o
  | .it l => rnL lo σ l fun l => .it l
  | .agg cs => match rnDs lo σ cs with
    | some cs => some (.agg cs)
    | none => none
  | .tup cs => match rnDs lo σ cs with
    | some cs => some (.tup cs)
    | none => none
  | .fn f cs => match rnDs lo σ cs with
    | some cs => some (.fn f cs)
    | none => none
  | .any => some .any
  | .bool b => some (.bool b)
  | .int k n => some (.int k n)
  | .str s => some (.str s)
  | .nils => some .nils
  | .sl k es => some (.sl k es)
  | .ref k es i o => some (.ref k es i o)
  | .nilp => some .nilp
  | .nilf => some .nilf
@[go_sem] def rnDs (lo : Nat) (σ : List (Nat × Nat)) : List D → Option (List D)
  | [] => some []
  | d :: r => match rnD lo σ d, rnDs lo σ r with
    | some d, some r => some (d :: r)
    | _, _ => none
end
mutual
/-- nil slices, taken as the call's own -/
def NlD : D → D → Prop
  | .nils, d' => d' = .nils ∨ ∃ l k i, d' = .own l k i 0
  | .agg a, d' => ∃ b, d' = .agg b ∧ NlDs a b
  | d, d' => d' = d ∧ d.noLoc = true
def NlDs : List D → List D → Prop
  | [], b => b = []
  | d :: r, b => ∃ d' r', b = d' :: r' ∧ NlD d d' ∧ NlDs r r'
end
def RnD (lo : Nat) (σ : List (Nat × Nat)) (d d' : D) : Prop := d' = d ∧ d.noLoc = true ∨ rnD lo σ d = some d' ∨ NlD d d'
def RnB (lo : Nat) (σ : List (Nat × Nat)) : Blk → Blk → Prop
  | .buf k es, .buf k' es' => k' = k ∧ (es' = es ∧ noLocs es = true ∨ rnDs lo σ es = some es' ∨ NlDs es es')
  | .iter s p, .iter s' p' => s' = s ∧ p' = p
  | _, _ => False
def RnE (lo : Nat) (σ : List (Nat × Nat)) : List Ent → List Ent → Prop
  | [], [] => True
  | a :: r, b :: s => (b.ok = a.ok ∧ RnD lo σ a.d b.d ∨ b = .un) ∧ RnE lo σ r s
  | _, _ => False
def RnM (lo c : Nat) (σ : List (Nat × Nat)) (m : List (Nat × Blk)) : List (Nat × Blk) → Prop
  | [] => True
  | (l', b') :: r => ((∃ l b, rnN lo σ l = some l' ∧ look m l = some b ∧ RnB lo σ b b') ∨ (Nat.ble lo l' = true ∧ Nat.blt l' c = true ∧ σ.all (fun p => !Nat.beq p.2 l') = true ∧ ∃ k, b' = .buf k [])) ∧ RnM lo c σ m r
/-- names are given anew: distinct ones, between the caller's and the next -/
def RnOK (lo c : Nat) : List (Nat × Nat) → Bool
  | [] => Nat.ble lo c
  | (a, b) :: r => Nat.ble lo a && (Nat.ble lo b && (Nat.blt b c && (r.all (fun p => !Nat.beq p.1 a && !Nat.beq p.2 b) && RnOK lo c r)))
@[go_sem] def leE : List Ent → List Ent → Prop
  | [], [] => True
  | a :: r, b :: s => (b = a ∨ b = .un) ∧ leE r s
  | _, _ => False
@[go_sem] def subM (m : List (Nat × Blk)) : List (Nat × Blk) → Prop
  | [] => True
  | (l, b) :: r => look m l = some b ∧ subM m r
/-- what may be thought without a step: names given anew, things forgotten, memory never written any more -/
inductive Ghost (lo : Nat) : List Ent → St → List Ent → St → Prop
  | refl (env : List Ent) (st : St) : Ghost lo env st env st
  | frz (l : Nat) (env : List Ent) (st : St) : Ghost lo env st (frz l (env, st.m)).1 ⟨st.nx, (frz l (env, st.m)).2⟩
  | ren (σ : List (Nat × Nat)) (c : Nat) (env env' : List Ent) (nx : Nat) (m m' : List (Nat × Blk)) (h : RnOK lo c σ = true) (he : RnE lo σ env env') (hm : RnM lo c σ m m') : Ghost lo env ⟨nx, m⟩ env' ⟨c, m'⟩
  | wk (env env' : List Ent) (nx : Nat) (m m' : List (Nat × Blk)) (he : leE env env') (hm : subM m m') : Ghost lo env ⟨nx, m⟩ env' ⟨nx, m'⟩
  | trans (env1 env2 env3 : List Ent) (st1 st2 st3 : St) (h : Ghost lo env1 st1 env2 st2) (h' : Ghost lo env2 st2 env3 st3) : Ghost lo env1 st1 env3 st3
def Gh (lo : Nat) (p : List Ent → St → Prop) (env : List Ent) (st : St) : Prop := ∃ env' st', Ghost lo env st env' st' ∧ p env' st'
def wpA (Γ : Ctx) : AC → (Ex → List Ent → St → Prop) → List Ent → St → Prop
  | .reg draw ins cm, Q => Gh Γ.lo fun env st => regW Γ draw ins env [] st fun vs st' => Q .normal (commit env vs cm) st'
  | .seq a b, Q => Gh Γ.lo (wpA Γ a (fun e env st => match e with
      | .normal => wpA Γ b Q env st
      | e => Q e env st))
  | .cond c a b, Q => Gh Γ.lo fun env st => (c.ev env []).ok = true ∧ match (c.ev env []).d with
    | .bool t => (t = true → wpA Γ a Q env st) ∧ (t = false → wpA Γ b Q env st)
    | _ => False
  | .block id a, Q => Gh Γ.lo (wpA Γ a (fun e env st => match e with
      | .exit j => if j = id then Q .normal env st else Q (.exit j) env st
      | e => Q e env st))
  | .loop a, Q => Gh Γ.lo fun env st => ∃ (I : List Ent → St → Prop) (μ : List Ent → St → Nat),
      I env st ∧ ∀ env st, I env st →
      wpA Γ a (fun e env' st' => match e with
        | .normal => ∃ env2 st2, Ghost Γ.lo env' st' env2 st2 ∧ I env2 st2 ∧ μ env2 st2 < μ env st
        | e => Q e env' st') env st
  | .exit id, Q => Gh Γ.lo (Q (.exit id))
  | .ret, Q => Gh Γ.lo (Q .ret)
  | .skip, Q => Gh Γ.lo (Q .normal)
def Ctx.at (Γ : Ctx) (n : Nat) : Ctx := { Γ with lo := n }
@[go_sem] def res1 (m : List (Nat × Blk)) (env : List Ent) (r : ARes) : D := match r.mem with
  | none => (env.getD r.s .un).d
  | some (n, ag) => ldV m n ag (env.getD r.s .un).d
@[go_sem] def resO (m : List (Nat × Blk)) (env : List Ent) : List ARes → Prop
  | [] => True
  | r :: rs => (env.getD r.s .un).ok = true ∧ (match r.mem with
      | none => True
      | some (n, _) => ldO m n (env.getD r.s .un).d) ∧ resO m env rs
@[go_sem] def ress (m : List (Nat × Blk)) (env : List Ent) : List ARes → List D
  | [] => []
  | r :: rs => res1 m env r :: ress m env rs
/-- what is handed back, as it stands -/
@[go_sem] def retRaw (a : AFunc) (env : List Ent) (st : St) : D := match a.res with
  | [r] => res1 st.m env r
  | rs => .tup (ress st.m env rs)
/-- what is handed back, read out -/
@[go_sem] def retP (a : AFunc) (env : List Ent) (st : St) : D := match a.res with
  | [r] => purV st.m (a.rsh.getD 0 []) (res1 st.m env r)
  | rs => .tup (purs st.m a.rsh (ress st.m env rs))
@[go_sem] def retPO (a : AFunc) (env : List Ent) (st : St) : Prop := match a.res with
  | [r] => purVO st.m (a.rsh.getD 0 []) (res1 st.m env r)
  | rs => pursO st.m a.rsh (ress st.m env rs)
@[go_sem] def Ex.home : Ex → Prop
  | .exit _ => False
  | _ => True
@[go_sem] def env0 (a : AFunc) (ds : List D) : List Ent := (ds.map fun d => ⟨true, d⟩) ++ List.replicate (a.ns - a.np) .un
end Go.Abs
end
section
namespace Go.Abs
mutual
def constD : Value → Option D
  | .bool b => some (.bool b)
  | .int k n => some (.int k n)
  | .string s => if s.size ≤ 9223372036854775807 then some (.str s.data.toList) else none
  | .pointer none => some .nilp
  | .slice none 0 0 => some .nils
  | .nilFunc => some .nilf
  | .agg ⟨cs⟩ => if cellsOne cs then (constDs cs).map .agg else none
  | _ => none
def constDs : List Value → Option (List D)
  | [] => some []
  | v :: r => match constD v, constDs r with
    | some d, some ds => some (d :: ds)
    | _, _ => none
def cellsOne : List Value → Bool
  | [] => true
  | v :: r => (match v with
    | .agg _ => false
    | .tuple _ => false
    | _ => true) && cellsOne r
end
/-- the shapes of a type's cells -/
def shOf (P : Program) : Nat → TypeId → List Sh
  | 0, _ => [.a]
  | d + 1, t => match P.underlying t with
    | some (.struct fs) => (fs.toList.map fun f => shOf P d f.type).flatten
    | some (.array n e) => (List.replicate n (shOf P d e)).flatten
    | some (.slice e) => [.sl (P.cellsOf e) (shOf P d e)]
    | some (.pointer e) => [.pt (shOf P d e)]
    | _ => [.a]
/-- a program, its functions' numbers (and whether a call of one may write), the temporaries that live across regions -/
structure CC where
  P : Program
  ν : List (Nat × Nat)
  eff : List Nat
  slots : List Nat
  ntmps : Nat
def idx? : List Nat → Nat → Option Nat
  | [], _ => none
  | a :: r, t => if a = t then some 0 else (idx? r t).map (· + 1)
def assoc? : List (Nat × Nat) → Nat → Option Nat
  | [], _ => none
  | (a, b) :: r, l => if a = l then some b else assoc? r l
/-- the place at which a temporary was written -/
def posOf (t : Nat) : List (Option Nat) → Option Nat
  | [] => none
  | a :: r => if a = some t then some 0 else (posOf t r).map (· + 1)
def CC.src (C : CC) (defs : List (Option Nat)) : Operand → Option Src
  | .tmp t => match posOf t defs with
    | some p => some (.l p)
    | none => (idx? C.slots t).map .s
  | .const v => (constD v).map .c
  | .func f => (assoc? C.ν f).map fun n => .c (.fn n [])
  | .global _ => none
def CC.srcs (C : CC) (defs : List (Option Nat)) : List Operand → Option (List Src)
  | [] => some []
  | x :: r => match C.src defs x, C.srcs defs r with
    | some a, some l => some (a :: l)
    | _, _ => none
def CC.opt (C : CC) (defs : List (Option Nat)) : Option Operand → Option (Option Src)
  | none => some none
  | some x => (C.src defs x).map some
def isAggT (P : Program) (t : TypeId) : Bool := match P.underlying t with
  | some (.struct _) => true
  | some (.array ..) => true
  | _ => false
def kindsFields (P : Program) (k : TypeId → Option (List CK)) : Nat → List Field → Option (List CK)
  | _, [] => some []
  | off, f :: r => if f.name = "_" ∨ f.offset ≠ off then none else
    match k f.type, kindsFields P k (off + P.cellsOf f.type) r with
    | some a, some b => if a.length = P.cellsOf f.type ∧ a.length ≠ 0 ∧ (P.underlying f.type).isNone = false then some (a ++ b) else none
    | _, _ => none
/-- the kinds of a type's cells, where '==' goes cell by cell -/
def kindsOf (P : Program) : Nat → TypeId → Option (List CK)
  | 0, _ => none
  | d + 1, t => match P.underlying t with
    | some .bool => some [.b]
    | some (.int k) => some [.i k]
    | some .string => some [.s]
    | some (.struct fs) => if P.stoodInHeld t then none else kindsFields P (fun t => kindsOf P d t) 0 fs.toList
    | some (.array n e) => match kindsOf P d e with
      | some l => if l.length = P.cellsOf e ∧ l.length ≠ 0 ∧ (P.underlying e).isNone = false then some (List.replicate n l).flatten else none
      | none => none
    | _ => none
def CC.parts (C : CC) (defs : List (Option Nat)) (place : Nat → Option (Nat × Nat)) : List (Nat × Operand) → Option (List (Nat × Nat × Src))
  | [] => some []
  | (i, x) :: r => match place i, C.src defs x, C.parts defs place r with
    | some (o, n), some s, some l => if n = 0 then none else some ((o, n, s) :: l)
    | _, _, _ => none
def CC.partsI (C : CC) (defs : List (Option Nat)) : List (Nat × Operand) → Option (List (Nat × Src))
  | [] => some []
  | (i, x) :: r => match C.src defs x, C.partsI defs r with
    | some s, some l => some ((i, s) :: l)
    | _, _ => none
def zeroD (P : Program) (t : TypeId) : Option D := ((P.info? t).bind (·.zero)).bind constD
def zeroFits (P : Program) (t : TypeId) : Bool := match zeroD P t with
  | some z => z.cells.length == P.cellsOf t
  | none => false
def CC.op (C : CC) (defs : List (Option Nat)) (o : Oper) : Option Ins :=
  match o.op with
  | .move x => (C.src defs x).map .mv
  | .assign x => (C.src defs x).map .mv
  | .pick c a b => match C.src defs c, C.src defs a, C.src defs b with
    | some c, some a, some b => some (.pick c a b)
    | _, _, _ => none
  | .alloc t => match zeroD C.P t with
    | some z => if C.P.cellsOf t = 0 then none else some (.box (C.P.cellsOf t) (.c z))
    | none => none
  | .box t x => match C.src defs x with
    | some s => if C.P.cellsOf t = 0 then none else some (.box (C.P.cellsOf t) s)
    | none => none
  | .build t ps => match zeroD C.P t, C.P.underlying t with
    | some (.agg z), some (.struct fs) => if fs.toList.all (fun f => (C.P.info? f.type).isSome) then (C.parts defs (fun i => (fs[i]?).map fun f => (f.offset, C.P.cellsOf f.type)) ps.toList).map (.build z) else none
    | some (.agg z), some (.array _ e) => if C.P.cellsOf e = 0 then none else (C.parts defs (fun i => some (i * C.P.cellsOf e, C.P.cellsOf e)) ps.toList).map (.build z)
    | _, _ => none
  | .buildSlice t n ps => match C.P.underlying t with
    | some (.slice e) => match zeroD C.P e, C.partsI defs ps.toList with
      | some z, some l => if C.P.cellsOf e = 0 ∨ n * C.P.cellsOf e > 16777216 then none else some (.bsl (C.P.cellsOf e) z n l)
      | _, _ => none
    | _ => none
  | .load t a => match C.src defs a with
    | some s => if C.P.cellsOf t = 0 ∨ (C.P.underlying t).isNone ∨ (isAggT C.P t = false ∧ C.P.cellsOf t ≠ 1) then none else some (.ld (C.P.cellsOf t) (isAggT C.P t) s)
    | none => none
  | .store t a x => match C.src defs a, C.src defs x with
    | some a, some x => if C.P.cellsOf t = 0 then none else some (.st (C.P.cellsOf t) a x)
    | _, _ => none
  | .nilCheck x => (C.src defs x).map .nilck
  | .binOp op t x y _ => match C.src defs x, C.src defs y with
    | some a, some b => match C.P.underlying t with
      | some (.int _) => some (.bin op a b)
      | some .string => some (.bin op a b)
      | _ => if C.P.eqGuardType C.P.depth t then none else match kindsOf C.P 30 t, op with
        | some ks, .eql => some (.eqA false (isAggT C.P t) ks a b)
        | some ks, .neq => some (.eqA true (isAggT C.P t) ks a b)
        | _, _ => none
    | _, _ => none
  | .unOp op _ x => (C.src defs x).map (.un op)
  | .convert s d x => match C.P.underlying s, C.P.underlying d, C.src defs x with
    | some (.int _), some (.int k), some a => some (.cvi k a)
    | some (.int _), some .string, some a => some (.i2s a)
    | some .string, some (.slice e), some a => match C.P.underlying e with
      | some (.int .u8) => some (.s2b a)
      | _ => none
    | some (.slice e), some .string, some a => match C.P.underlying e with
      | some (.int .u8) => some (.b2s a)
      | _ => none
    | _, _, _ => none
  | .makeFunc (.func f) first caps => match assoc? C.ν f, C.srcs defs caps.toList with
    | some n, some l => if first.isEmpty then some (.mkf n l) else none
    | _, _ => none
  | .makeSlice t l c => match C.P.underlying t with
    | some (.slice e) => match zeroD C.P e, C.src defs l, C.src defs c with
      | some z, some l, some c => if C.P.cellsOf e = 0 ∨ C.P.bytesOf e > 65536 then none else some (.mks (C.P.cellsOf e) z l c)
      | _, _, _ => none
    | _ => none
  | .slice t x lo hi mx => match C.P.underlying t, C.src defs x, C.opt defs lo, C.opt defs hi, mx with
    | some .string, some a, some l, some h, none => some (.slS a l h)
    | some (.slice e), some a, some l, some h, none => if C.P.cellsOf e = 0 then none else some (.slA (C.P.cellsOf e) a l h)
    | _, _, _, _, _ => none
  | .fieldAddr t x f => match C.P.underlying t, C.src defs x with
    | some (.struct fs), some a => match fs[f]? with
      | some f => if C.P.cellsOf f.type = 0 then none else some (.fa f.offset a)
      | none => none
    | _, _ => none
  | .field t x f => match C.P.underlying t, C.src defs x with
    | some (.struct fs), some a => match fs[f]? with
      | some f => if C.P.cellsOf f.type = 0 ∨ (C.P.underlying f.type).isNone then none else some (.fld f.offset (C.P.cellsOf f.type) (isAggT C.P f.type) a)
      | none => none
    | _, _ => none
  | .indexAddr t x i => match C.P.underlying t, C.src defs x, C.src defs i with
    | some (.slice e), some a, some b => if C.P.cellsOf e = 0 then none else some (.ia (C.P.cellsOf e) a b)
    | some (.array n e), some a, some b => if C.P.cellsOf e = 0 then none else some (.iaP n (C.P.cellsOf e) a b)
    | _, _, _ => none
  | .index t x i => match C.P.underlying t, C.src defs x, C.src defs i with
    | some .string, some a, some b => some (.ixS a b)
    | some (.array n e), some a, some b => if C.P.cellsOf e = 0 ∨ (C.P.underlying e).isNone then none else some (.ixA n (C.P.cellsOf e) (isAggT C.P e) a b)
    | _, _, _ => none
  | .range t x => match C.P.underlying t, C.src defs x with
    | some .string, some a => some (.rng a)
    | _, _ => none
  | .next it true => (C.src defs it).map .nxt
  | .extract t i => (C.src defs t).map fun s => .ext s i
  | .call c => match c.callee with
    | .builtin .len => match c.args.toList, c.argTypes.toList with
      | [x], [t] => match C.src defs x, C.P.underlying t with
        | some a, some .string => some (.lenS a)
        | some a, some (.slice _) => some (.len a)
        | _, _ => none
      | _, _ => none
    | .builtin .append => match c.args.toList, c.argTypes.toList with
      | [x, y], [t, u] => match C.src defs x, C.src defs y, C.P.underlying t, C.P.underlying u with
        | some a, some b, some (.slice e), some (.slice _) => if C.P.cellsOf e = 0 ∨ C.P.bytesOf e > 65536 ∨ C.P.bytesOf e = 0 ∨ zeroFits C.P e = false then none else some (.app (C.P.cellsOf e) a b)
        | some a, some b, some (.slice e), some .string => if C.P.cellsOf e = 0 ∨ C.P.bytesOf e > 65536 ∨ C.P.bytesOf e = 0 ∨ zeroFits C.P e = false then none else some (.app (C.P.cellsOf e) a b)
        | _, _, _, _ => none
      | _, _ => none
    | .value (.func f) => match assoc? C.ν f, C.srcs defs c.args.toList with
      | some n, some l => if C.eff.contains (2 * n) then some (.callM n l) else if C.eff.contains (2 * n + 1) then (match l with
          | r :: rest => some (.callF n r rest ((c.argTypes.toList.map (shOf C.P 8)).drop 1))
          | [] => none) else some (.call n l (c.argTypes.toList.map (shOf C.P 8)))
      | _, _ => none
    | .value (.tmp t) => match C.src defs (.tmp t), C.srcs defs c.args.toList with
      | some s, some l => some (.callv s l (c.argTypes.toList.map (shOf C.P 8)))
      | _, _ => none
    | _ => none
  | _ => none
def CC.guard (defs : List (Option Nat)) : Option (Nat × Bool) → Option (Option (Nat × Bool))
  | none => some none
  | some (j, w) => match defs[j]? with
    | some (some _) => some (some (j, w))
    | _ => none
def CC.ops (C : CC) : (defs : List (Option Nat)) → List Oper → Option (List GI)
  | _, [] => some []
  | defs, o :: r => match C.op defs o, CC.guard defs o.guard, C.ops (defs ++ [o.dst]) r with
    | some i, some g, some l => if o.dst.all (fun d => d < C.ntmps && !defs.contains (some d)) then some (⟨i, g⟩ :: l) else none
    | _, _, _ => none
def CC.commits (C : CC) : Nat → List Oper → List (Nat × Nat)
  | _, [] => []
  | p, o :: r => match o.dst.bind (idx? C.slots) with
    | some s => (s, p) :: C.commits (p + 1) r
    | none => C.commits (p + 1) r
/-- as bits: all that come ahead of an operation, in every order -/
def befOf (acc : List Nat) : List Edge → Nat
  | [] => 0
  | e :: r => if Region.binds .any e then (2 ^ e.on ||| acc.getD e.on 0) ||| befOf acc r else befOf acc r
def befs : List Nat → List Oper → List Nat
  | acc, [] => acc
  | acc, o :: r => befs (acc ++ [befOf acc o.after.toList]) r
def tmpsOf (ops : List Oper) (o : Oper) : List Nat :=
  (o.op.operands.toList.filterMap fun
    | .tmp t => some t
    | _ => none) ++ (match o.guard with
    | some (g, _) => ((ops[g]?).bind (·.dst)).toList
    | none => [])
/-- each that reads what another writes is ordered with it -/
def readsOK (ops : List Oper) (bs : List Nat) : Bool :=
  (List.range ops.length).all fun j => (List.range ops.length).all fun p => match ops[j]?, ops[p]? with
    | some oj, some op => match op.dst with
      | some t => p == j || !(tmpsOf ops oj).contains t || (bs.getD (max j p) 0).testBit (min j p)
      | none => true
    | _, _ => false
/-- does not look at memory -/
def Ins.pure : Ins → Bool
  | .mv _ => true
  | .pick .. => true
  | .build .. => true
  | .nilck _ => true
  | .bin .. => true
  | .eqA .. => true
  | .un .. => true
  | .cvi .. => true
  | .i2s _ => true
  | .mkf .. => true
  | .slS .. => true
  | .slA .. => true
  | .fa .. => true
  | .fld .. => true
  | .ia .. => true
  | .iaP .. => true
  | .ixS .. => true
  | .ixA .. => true
  | .ext .. => true
  | .len _ => true
  | .lenS _ => true
  | .ldI .. => true
  | .bslI .. => true
  | _ => false
def Sh.isA : Sh → Bool
  | .a => true
  | _ => false
/-- does not look at the call's own memory -/
def Ins.free : Ins → Bool
  | .call _ _ sh => sh.all fun s => s.all Sh.isA
  | i => i.pure
/-- makes memory of its own, and looks at none -/
def Ins.maker : Ins → Bool
  | .box .. => true
  | .bsl .. => true
  | .mks .. => true
  | .s2b .. => true
  | .rng .. => true
  | _ => false
def Ins.isApp : Ins → Bool
  | .app .. => true
  | _ => false
/-- whatever writes is ordered with whatever looks at memory -/
def effOK (l : List GI) (bs : List Nat) : Bool :=
  (List.range l.length).all fun j => (List.range l.length).all fun i => match l[j]?, l[i]? with
    | some gj, some gi => gj.i.calm || gi.i.free || (gi.i.maker && !gj.i.isApp) || i == j || (bs.getD (max j i) 0).testBit (min j i)
    | _, _ => false
def Ins.isCallM : Ins → Bool
  | .callM .. => true
  | _ => false
/-- what comes ahead in every order stands ahead in the text -/
def edgesOK : Nat → List Oper → Bool
  | _, [] => true
  | p, o :: r => o.after.toList.all (fun e => !Region.binds .any e || decide (e.on < p)) && edgesOK (p + 1) r
def drawOK (ops : List Oper) (l : List GI) : Bool :=
  let bs := befs [] ops
  readsOK ops bs && (effOK l bs && ((l.all fun g => !g.i.isCallM) && edgesOK 0 ops))
/-- appending to nothing makes memory of its own -/
def Ins.toN : Ins → Ins
  | .app k (.c .nils) y => .appN k y
  | i => i
/-- a load that is not ordered with all that writes: of what is never written -/
def looseAt (bs : List Nat) (l : List GI) (i : Nat) : Bool :=
  (List.range l.length).any fun j => match l[j]? with
    | some gj => !(gj.i.toN.calm || i == j || (bs.getD (max j i) 0).testBit (min j i))
    | none => false
/-- a row made here, of which such a load takes an element -/
def icedAt (bs : List Nat) (l : List GI) (p : Nat) : Bool :=
  (List.range l.length).any fun j => match l[j]? with
    | some ⟨.ia _ (.l q) _, _⟩ => Nat.beq q p && (List.range l.length).any fun i => match l[i]? with
      | some ⟨.ld _ _ (.l r), _⟩ => Nat.beq r j && looseAt bs l i
      | _ => false
    | _ => false
def loosen (bs : List Nat) (l0 : List GI) : Nat → List GI → List GI
  | _, [] => []
  | p, g :: r => (match g.i with
    | .ld n ag x => if looseAt bs l0 p then ⟨.ldI n ag x, g.g⟩ else g
    | .bsl k z n ps => if icedAt bs l0 p then ⟨.bslI k z n ps, g.g⟩ else g
    | i => ⟨i.toN, g.g⟩) :: loosen bs l0 (p + 1) r
def CC.code (C : CC) : Code → Option AC
  | .skip => some .skip
  | .region _ ops draw => match C.ops [] ops.toList with
    | some l => if draw then
        if drawOK ops.toList (loosen (befs [] ops.toList) l 0 l) then some (.reg true (loosen (befs [] ops.toList) l 0 l) (C.commits 0 ops.toList)) else none
      else some (.reg false l (C.commits 0 ops.toList))
    | none => none
  | .seq a b => match C.code a, C.code b with
    | some a, some b => some (.seq a b)
    | _, _ => none
  | .cond c a b => match C.src [] c, C.code a, C.code b with
    | some c, some a, some b => some (.cond c a b)
    | _, _, _ => none
  | .block id a => (C.code a).map (.block id)
  | .loop a => (C.code a).map .loop
  | .exit id => some (.exit id)
  | .ret => some .ret
  | .scope a => C.code a
  | .label _ => some .skip
  | _ => none
def usesOps : (defs : List (Option Nat)) → List Oper → List Nat
  | _, [] => []
  | defs, o :: r => (o.op.operands.toList.filterMap fun
      | .tmp t => if (posOf t defs).isNone then some t else none
      | _ => none) ++ usesOps (defs ++ [o.dst]) r
def uses : Code → List Nat
  | .region _ ops _ => usesOps [] ops.toList
  | .seq a b => uses a ++ uses b
  | .cond c a b => (match c with
    | .tmp t => [t]
    | _ => []) ++ uses a ++ uses b
  | .block _ a => uses a
  | .loop a => uses a
  | .scope a => uses a
  | _ => []
def resTmps : List ResultVar → List Nat
  | [] => []
  | .tmp t :: r => t :: resTmps r
  | .cell t _ :: r => t :: resTmps r
def dedup : List Nat → List Nat → List Nat
  | acc, [] => acc.reverse
  | acc, a :: r => if acc.contains a then dedup acc r else dedup (a :: acc) r
def ress? (P : Program) (sl : List Nat) : List ResultVar → Option (List ARes)
  | [] => some []
  | .tmp t :: r => match idx? sl t, ress? P sl r with
    | some a, some l => some (⟨a, none⟩ :: l)
    | _, _ => none
  | .cell t ty :: r => match idx? sl t, ress? P sl r with
    | some a, some l => if P.cellsOf ty = 0 ∨ (P.underlying ty).isNone ∨ (isAggT P ty = false ∧ P.cellsOf ty ≠ 1) then none else some (⟨a, some (P.cellsOf ty, isAggT P ty)⟩ :: l)
    | _, _ => none
def slotsOf (fn : Func) : List Nat := dedup [] (List.range (fn.params.size + fn.nfree) ++ resTmps fn.results.toList ++ uses (fn.body.getD .skip))
def compile (P : Program) (ν : List (Nat × Nat)) (eff : List Nat) (fn : Func) : Option AFunc :=
  match fn.body with
  | some body =>
    match CC.code { P, ν, eff, slots := slotsOf fn, ntmps := fn.ntmps } body, ress? P (slotsOf fn) fn.results.toList with
    | some a, some res =>
      if fn.params.size + fn.nfree ≤ fn.ntmps then some { np := fn.params.size + fn.nfree, ns := (slotsOf fn).length, res, rsh := fn.resultTypes.toList.map (shOf P 8), body := a } else none
    | _, _ => none
  | none => none
end Go.Abs
end
section
namespace Go.Abs
/-- a world, the blocks that are never written any more, and where the call's own places lie: block, first cell, how many elements there is room for -/
structure X where
  w : World
  I : Nat → Prop
  β : Nat → Option (Nat × Nat × Nat)
inductive RD (ν : List (Nat × Nat)) (x : X) : Value → D → Prop
  | any (v : Value) : RD ν x v .any
  | bool (b : Bool) : RD ν x (.bool b) (.bool b)
  | int (k : IntKind) (n : Int) : RD ν x (.int k n) (.int k n)
  | str (s : List UInt8) (h : s.length ≤ maxLen) : RD ν x (.string ⟨⟨s⟩⟩) (.str s)
  | agg (cs : Array Value) (ds : List D) (hl : cs.size = ds.length) (h1 : ∀ i, i < ds.length → (cs.getD i undef).oneCell' = true)
      (h : ∀ i, i < ds.length → RD ν x (cs.getD i undef) (ds.getD i .any)) : RD ν x (.agg cs) (.agg ds)
  | tup (cs : Array Value) (ds : List D) (hl : cs.size = ds.length)
      (h : ∀ i, i < ds.length → RD ν x (cs.getD i undef) (ds.getD i .any)) : RD ν x (.tuple cs) (.tup ds)
  | nils : RD ν x (.slice none 0 0) .nils
  | sl (a : Option Addr) (b off len cap k : Nat) (es : List D) (c : Nat → Nat → Value) (hlen : len = es.length)
      (ha : es = [] ∨ (a = some ⟨b, off, none⟩ ∧ x.I b)) (hcap : len ≤ cap) (hm : cap ≤ maxLen)
      (hk : ∀ i, i < len → (es.getD i .any).cells.length = k) (hn : ∀ i, i < len → (es.getD i .any).noLoc = true)
      (hc : ∀ i j, i < len → j < k → x.w.cell? ⟨b, off + i * k + j, none⟩ = some (c i j))
      (h1 : ∀ i j, i < len → j < k → (c i j).oneCell' = true)
      (h : ∀ i j, i < len → j < k → RD ν x (c i j) ((es.getD i .any).cells.getD j .any)) : RD ν x (.slice a len cap) (.sl k es)
  | ref (b off k i o at_ : Nat) (es : List D) (c : Nat → Nat → Value) (hI : x.I b) (hat : at_ = off + i * k + o)
      (hk : ∀ i, i < es.length → (es.getD i .any).cells.length = k) (hn : ∀ i, i < es.length → (es.getD i .any).noLoc = true)
      (hc : ∀ i j, i < es.length → j < k → x.w.cell? ⟨b, off + i * k + j, none⟩ = some (c i j))
      (h1 : ∀ i j, i < es.length → j < k → (c i j).oneCell' = true)
      (h : ∀ i j, i < es.length → j < k → RD ν x (c i j) ((es.getD i .any).cells.getD j .any)) : RD ν x (.pointer (some ⟨b, at_, none⟩)) (.ref k es i o)
  | ptr (l k i o b base tot at_ : Nat) (hβ : x.β l = some (b, base, tot)) (hat : at_ = base + i * k + o) : RD ν x (.pointer (some ⟨b, at_, none⟩)) (.ptr l k i o)
  | own (l k i n b base tot cap : Nat) (a : Addr) (hβ : x.β l = some (b, base, tot)) (ha : 0 < cap → a = ⟨b, base + i * k, none⟩)
      (hcap : n ≤ cap) (hm : cap ≤ maxLen) (ht : i + cap ≤ tot) : RD ν x (.slice (some a) n cap) (.own l k i n)
  | own0 (l k i : Nat) : RD ν x (.slice none 0 0) (.own l k i 0)
  | nilp : RD ν x (.pointer none) .nilp
  | fn (fid n : Nat) (cs : Array Value) (ds : List D) (hν : assoc? ν fid = some n) (hl : cs.size = ds.length)
      (h : ∀ i, i < ds.length → RD ν x (cs.getD i undef) (ds.getD i .any)) : RD ν x (.func (.func fid) #[] cs) (.fn n ds)
  | nilf : RD ν x .nilFunc .nilf
  | it (l b base tot : Nat) (hβ : x.β l = some (b, base, tot)) : RD ν x (.pointer (some ⟨b, 0, none⟩)) (.it l)
section
variable {ν : List (Nat × Nat)} {x x' : X}
/-- what was there stays readable -/
structure Le (x x' : X) : Prop where
  I : ∀ b, x.I b → x'.I b
  keep : ∀ b, x.I b → x'.w.heap[b]? = x.w.heap[b]?
  β : ∀ l p, x.β l = some p → x'.β l = some p
theorem cell_keep {w w' : World} {b o : Nat} {v : Value} (h : w'.heap[b]? = w.heap[b]?) (hc : w.cell? ⟨b, o, none⟩ = some v) : w'.cell? ⟨b, o, none⟩ = some v := by
  rw [← hc]; unfold World.cell?; simp only [h]
theorem Le.refl (x : X) : Le x x := ⟨fun _ h => h, fun _ _ => rfl, fun _ _ h => h⟩
theorem Le.trans {x'' : X} (h : Le x x') (h' : Le x' x'') : Le x x'' :=
  ⟨fun b hb => h'.I b (h.I b hb), fun b hb => (h'.keep b (h.I b hb)).trans (h.keep b hb), fun l p hp => h'.β l p (h.β l p hp)⟩
theorem RD.mono {v : Value} {d : D} (h : RD ν x v d) (hl : Le x x') : RD ν x' v d := by
  induction h with
  | any v => exact .any v
  | bool b => exact .bool b
  | int k n => exact .int k n
  | str s h => exact .str s h
  | agg cs ds hl' h1 _ ih => exact .agg cs ds hl' h1 ih
  | tup cs ds hl' _ ih => exact .tup cs ds hl' ih
  | nils => exact .nils
  | sl a b off len cap k es c hlen ha hcap hm hk hn hc h1 _ ih =>
    refine .sl a b off len cap k es c hlen (ha.imp id fun ⟨p, q⟩ => ⟨p, hl.I _ q⟩) hcap hm hk hn (fun i j hi hj => ?_) h1 ih
    rcases ha with rfl | ⟨_, hI⟩
    · simp at hlen; omega
    · exact cell_keep (hl.keep _ hI) (hc i j hi hj)
  | ref b off k i o at_ es c hI hat hk hn hc h1 _ ih =>
    exact .ref b off k i o at_ es c (hl.I _ hI) hat hk hn (fun i j hi hj => cell_keep (hl.keep _ hI) (hc i j hi hj)) h1 ih
  | ptr l k i o b base tot at_ hβ hat => exact .ptr l k i o b base tot at_ (hl.β _ _ hβ) hat
  | own l k i n b base tot cap a hβ ha hcap hm ht => exact .own l k i n b base tot cap a (hl.β _ _ hβ) ha hcap hm ht
  | own0 l k i => exact .own0 l k i
  | nilp => exact .nilp
  | fn fid n cs ds hν hl' _ ih => exact .fn fid n cs ds hν hl' ih
  | nilf => exact .nilf
  | it l b base tot hβ => exact .it l b base tot (hl.β _ _ hβ)
theorem noLocs_getD : ∀ {ds : List D}, noLocs ds = true → ∀ i, (ds.getD i .any).noLoc = true
  | [], _, i => by simp [D.noLoc]
  | d :: r, h, 0 => by simp [noLocs] at h; simpa using h.1
  | d :: r, h, i + 1 => by simp [noLocs] at h; simpa using noLocs_getD h.2 i
theorem memFrees_getD : ∀ {ds : List D}, memFrees ds = true → ∀ i, (ds.getD i .any).memFree = true
  | [], _, i => by simp [D.memFree]
  | d :: r, h, 0 => by simp [memFrees] at h; simpa using h.1
  | d :: r, h, i + 1 => by simp [memFrees] at h; simpa using memFrees_getD h.2 i
theorem noLoc_cell {d : D} (h : d.noLoc = true) (j : Nat) : (d.cells.getD j .any).noLoc = true := by
  cases d <;> simp only [D.cells] <;> first
    | (simp only [D.noLoc] at h; exact noLocs_getD h j)
    | (cases j <;> simp_all [D.noLoc])
/-- what names no memory of the call's own reads wherever that memory lies -/
theorem RD.noLoc {v : Value} {d : D} (h : RD ν x v d) (hn : d.noLoc = true) (hI : ∀ b, x.I b → x'.I b) (hk : ∀ b, x.I b → x'.w.heap[b]? = x.w.heap[b]?) : RD ν x' v d := by
  induction h with
  | any v => exact .any v
  | bool b => exact .bool b
  | int k n => exact .int k n
  | str s h => exact .str s h
  | agg cs ds hl' h1 _ ih => exact .agg cs ds hl' h1 fun i hi => ih i hi (noLocs_getD (by simpa [D.noLoc] using hn) i)
  | tup cs ds hl' _ ih => exact .tup cs ds hl' fun i hi => ih i hi (noLocs_getD (by simpa [D.noLoc] using hn) i)
  | nils => exact .nils
  | sl a b off len cap k es c hlen ha hcap hm hk' hn' hc h1 _ ih =>
    refine .sl a b off len cap k es c hlen (ha.imp id fun ⟨p, q⟩ => ⟨p, hI _ q⟩) hcap hm hk' hn' (fun i j hi hj => ?_) h1 fun i j hi hj => ih i j hi hj (noLoc_cell (hn' i hi) j)
    rcases ha with rfl | ⟨_, hIb⟩
    · simp at hlen; omega
    · exact cell_keep (hk _ hIb) (hc i j hi hj)
  | ref b off k i o at_ es c hIb hat hk' hn' hc h1 _ ih =>
    exact .ref b off k i o at_ es c (hI _ hIb) hat hk' hn' (fun i j hi hj => cell_keep (hk _ hIb) (hc i j hi hj)) h1 fun i j hi hj => ih i j hi hj (noLoc_cell (hn' i hi) j)
  | ptr => simp [D.noLoc] at hn
  | own => simp [D.noLoc] at hn
  | own0 => simp [D.noLoc] at hn
  | nilp => exact .nilp
  | fn fid n cs ds hν hl' _ ih => exact .fn fid n cs ds hν hl' fun i hi => ih i hi (noLocs_getD (by simpa [D.noLoc] using hn) i)
  | nilf => exact .nilf
  | it => simp [D.noLoc] at hn
/-- what names no memory reads in every world -/
theorem RD.memFree {v : Value} {d : D} (h : RD ν x v d) (hn : d.memFree = true) : RD ν x' v d := by
  induction h with
  | any v => exact .any v
  | bool b => exact .bool b
  | int k n => exact .int k n
  | str s h => exact .str s h
  | agg cs ds hl' h1 _ ih => exact .agg cs ds hl' h1 fun i hi => ih i hi (memFrees_getD (by simpa [D.memFree] using hn) i)
  | tup cs ds hl' _ ih => exact .tup cs ds hl' fun i hi => ih i hi (memFrees_getD (by simpa [D.memFree] using hn) i)
  | nils => exact .nils
  | sl => simp [D.memFree] at hn
  | ref => simp [D.memFree] at hn
  | ptr => simp [D.memFree] at hn
  | own => simp [D.memFree] at hn
  | own0 => simp [D.memFree] at hn
  | nilp => exact .nilp
  | fn fid n cs ds hν hl' _ ih => exact .fn fid n cs ds hν hl' fun i hi => ih i hi (memFrees_getD (by simpa [D.memFree] using hn) i)
  | nilf => exact .nilf
  | it => simp [D.memFree] at hn
/-- a value's cells -/
theorem RD.cells {v : Value} {d : D} (h : RD ν x v d) (hd : 0 < d.cells.length) :
    v.cells.size = d.cells.length ∧ ∀ j, j < d.cells.length → (v.cells.getD j undef).oneCell' = true ∧ RD ν x (v.cells.getD j undef) (d.cells.getD j .any) := by
  cases h with
  | any => simp [D.cells] at hd
  | tup => simp [D.cells] at hd
  | agg cs ds hl h1 h => exact ⟨hl, fun j hj => ⟨h1 j hj, h j hj⟩⟩
  | bool b => exact ⟨rfl, fun j hj => by simp [D.cells] at hj; subst hj; exact ⟨rfl, .bool b⟩⟩
  | int k n => exact ⟨rfl, fun j hj => by simp [D.cells] at hj; subst hj; exact ⟨rfl, .int k n⟩⟩
  | str s h => exact ⟨rfl, fun j hj => by simp [D.cells] at hj; subst hj; exact ⟨rfl, .str s h⟩⟩
  | nils => exact ⟨rfl, fun j hj => by simp [D.cells] at hj; subst hj; exact ⟨rfl, .nils⟩⟩
  | sl a b off len cap k es c hlen ha hcap hm hk hn hc h1 h => exact ⟨rfl, fun j hj => by simp [D.cells] at hj; subst hj; exact ⟨rfl, .sl a b off len cap k es c hlen ha hcap hm hk hn hc h1 h⟩⟩
  | ref b off k i o at_ es c hI hat hk hn hc h1 h => exact ⟨rfl, fun j hj => by simp [D.cells] at hj; subst hj; exact ⟨rfl, .ref b off k i o at_ es c hI hat hk hn hc h1 h⟩⟩
  | ptr l k i o b base tot at_ hβ hat => exact ⟨rfl, fun j hj => by simp [D.cells] at hj; subst hj; exact ⟨rfl, .ptr l k i o b base tot at_ hβ hat⟩⟩
  | own l k i n b base tot cap a hβ ha hcap hm ht => exact ⟨rfl, fun j hj => by simp [D.cells] at hj; subst hj; exact ⟨rfl, .own l k i n b base tot cap a hβ ha hcap hm ht⟩⟩
  | own0 l k i => exact ⟨rfl, fun j hj => by simp [D.cells] at hj; subst hj; exact ⟨rfl, .own0 l k i⟩⟩
  | nilp => exact ⟨rfl, fun j hj => by simp [D.cells] at hj; subst hj; exact ⟨rfl, .nilp⟩⟩
  | fn fid n cs ds hν hl h => exact ⟨rfl, fun j hj => by simp [D.cells] at hj; subst hj; exact ⟨rfl, .fn fid n cs ds hν hl h⟩⟩
  | nilf => exact ⟨rfl, fun j hj => by simp [D.cells] at hj; subst hj; exact ⟨rfl, .nilf⟩⟩
  | it l b base tot hβ => exact ⟨rfl, fun j hj => by simp [D.cells] at hj; subst hj; exact ⟨rfl, .it l b base tot hβ⟩⟩
end
end Go.Abs
end
section
namespace Go.Abs
section
variable {ν : List (Nat × Nat)} {x x' : X}
def BlkR (ν : List (Nat × Nat)) (x : X) (b base tot : Nat) : Blk → Prop
  | .buf k es => 0 < k ∧ es.length ≤ tot ∧ ∃ c T fr, x.w.heap[b]? = some (.cells c T fr) ∧ base + tot * k ≤ c.size ∧
      (∀ o, o < c.size → ¬ (fr.1 ≤ o ∧ o < fr.2)) ∧
      ∀ i, i < es.length → (es.getD i .any).cells.length = k ∧ ∀ j, j < k →
        (c.getD (base + i * k + j) undef).oneCell' = true ∧ RD ν x (c.getD (base + i * k + j) undef) ((es.getD i .any).cells.getD j .any)
  | .iter s pos => x.w.heap[b]? = some (.stringIter ⟨⟨s⟩⟩ pos) ∧ s.length ≤ maxLen
/-- what a program's library wants of its package variables -/
class Glob where
  gd : X → Prop
  le : ∀ x x' : X, (∀ b, x.I b → x'.I b) → (∀ b, x.I b → x'.w.heap[b]? = x.w.heap[b]?) → gd x → gd x'
variable [Glob]
theorem gd_le (h : Le x x') (hg : Glob.gd x) : Glob.gd x' := Glob.le x x' h.I h.keep hg
structure Sim (ν : List (Nat × Nat)) (x : X) (f : Nat → Option Blk) : Prop where
  own : ∀ l blk b base tot, f l = some blk → x.β l = some (b, base, tot) → ¬ x.I b ∧ BlkR ν x b base tot blk
  inj : ∀ l l' b base tot base' tot', f l ≠ none → f l' ≠ none → x.β l = some (b, base, tot) → x.β l' = some (b, base', tot') → l = l'
  imm : ∀ b, x.I b → b < x.w.heap.size
  bnd : ∀ l b base tot, x.β l = some (b, base, tot) → b < x.w.heap.size
  gd : Glob.gd x
structure Step (x x' : X) : Prop where
  os : x'.w.os = x.w.os
  tape : x'.w.tape = x.w.tape
  output : x'.w.output = x.w.output
  size : x.w.heap.size ≤ x'.w.heap.size
  I : ∀ b, x.I b → x'.I b
  keep : ∀ b, x.I b → x'.w.heap[b]? = x.w.heap[b]?
  β : ∀ l p, x.β l = some p → x'.β l = some p
  old : ∀ b, b < x.w.heap.size → (∀ l p, x.β l = some p → p.1 ≠ b) → x'.w.heap[b]? = x.w.heap[b]?
  newI : ∀ b, x'.I b → x.I b ∨ x.w.heap.size ≤ b ∨ ∃ l p, x.β l = some p ∧ p.1 = b
  newβ : ∀ l p, x'.β l = some p → x.β l = some p ∨ x.w.heap.size ≤ p.1 ∨ ∃ l' p', x.β l' = some p' ∧ p'.1 = p.1
theorem Step.le (h : Step x x') : Le x x' := ⟨h.I, h.keep, h.β⟩
theorem Step.refl (x : X) : Step x x := ⟨rfl, rfl, rfl, Nat.le_refl _, fun _ h => h, fun _ _ => rfl, fun _ _ h => h, fun _ _ _ => rfl, fun _ h => .inl h, fun _ _ h => .inl h⟩
theorem Step.trans {x'' : X} (h : Step x x') (h' : Step x' x'') : Step x x'' := by
  refine ⟨h'.os.trans h.os, h'.tape.trans h.tape, h'.output.trans h.output, Nat.le_trans h.size h'.size, fun b hb => h'.I b (h.I b hb),
    fun b hb => (h'.keep b (h.I b hb)).trans (h.keep b hb), fun l p hp => h'.β l p (h.β l p hp), ?_, ?_, ?_⟩
  · intro b hb hn
    refine (h'.old b (Nat.lt_of_lt_of_le hb h.size) ?_).trans (h.old b hb hn)
    intro l p hp e
    rcases h.newβ l p hp with h1 | h1 | ⟨l', p', h1, h2⟩
    · exact hn l p h1 e
    · omega
    · exact hn l' p' h1 (h2.trans e)
  · intro b hb
    rcases h'.newI b hb with h1 | h1 | ⟨l, p, h1, h2⟩
    · exact h.newI b h1
    · exact .inr (.inl (Nat.le_trans h.size h1))
    · rcases h.newβ l p h1 with h3 | h3 | ⟨l', p', h3, h4⟩
      · exact .inr (.inr ⟨l, p, h3, h2⟩)
      · exact .inr (.inl (h2 ▸ h3))
      · exact .inr (.inr ⟨l', p', h3, h4.trans h2⟩)
  · intro l p hp
    rcases h'.newβ l p hp with h1 | h1 | ⟨l', p', h1, h2⟩
    · exact h.newβ l p h1
    · exact .inr (.inl (Nat.le_trans h.size h1))
    · rcases h.newβ l' p' h1 with h3 | h3 | ⟨l'', p'', h3, h4⟩
      · exact .inr (.inr ⟨l', p', h3, h2⟩)
      · exact .inr (.inl (h2 ▸ h3))
      · exact .inr (.inr ⟨l'', p'', h3, h4.trans h2⟩)
theorem BlkR.mono {b base tot : Nat} {blk : Blk} (h : BlkR ν x b base tot blk) (hl : Le x x') (hb : x'.w.heap[b]? = x.w.heap[b]?) : BlkR ν x' b base tot blk := by
  cases blk with
  | buf k es =>
    obtain ⟨hk, ht, c, T, fr, h1, h2, h3, h4⟩ := h
    exact ⟨hk, ht, c, T, fr, hb.trans h1, h2, h3, fun i hi => ⟨(h4 i hi).1, fun j hj => ⟨((h4 i hi).2 j hj).1, ((h4 i hi).2 j hj).2.mono hl⟩⟩⟩
  | iter s pos => exact ⟨hb.trans h.1, h.2⟩
/-- the world, grown by new blocks alone -/
structure Grow (w w' : World) : Prop where
  os : w'.os = w.os
  tape : w'.tape = w.tape
  output : w'.output = w.output
  size : w.heap.size ≤ w'.heap.size
  old : ∀ b, b < w.heap.size → w'.heap[b]? = w.heap[b]?
theorem Grow.refl (w : World) : Grow w w := ⟨rfl, rfl, rfl, Nat.le_refl _, fun _ _ => rfl⟩
theorem heap_push_old (w : World) (o : Obj) (b : Nat) (hb : b < w.heap.size) : (w.alloc o).heap[b]? = w.heap[b]? := by
  simp only [World.alloc, Array.getElem?_push]; rw [if_neg (by omega)]
theorem heap_push_new (w : World) (o : Obj) : (w.alloc o).heap[w.heap.size]? = some o := by show (w.heap.push o)[w.heap.size]? = some o; simp
theorem Grow.alloc (w : World) (o : Obj) : Grow w (w.alloc o) := ⟨rfl, rfl, rfl, by simp, fun b hb => heap_push_old w o b hb⟩
theorem Grow.trans {w w' w'' : World} (h : Grow w w') (h' : Grow w' w'') : Grow w w'' :=
  ⟨h'.os.trans h.os, h'.tape.trans h.tape, h'.output.trans h.output, Nat.le_trans h.size h'.size, fun b hb => (h'.old b (Nat.lt_of_lt_of_le hb h.size)).trans (h.old b hb)⟩
theorem Grow.drew (w : World) : Grow w w.drew := ⟨rfl, rfl, rfl, Nat.le_refl _, fun _ _ => rfl⟩
/-- nothing new of the call's own -/
theorem Step.grow {w' : World} (hw : Grow x.w w') (himm : ∀ b, x.I b → b < x.w.heap.size) : Step x ⟨w', x.I, x.β⟩ :=
  ⟨hw.os, hw.tape, hw.output, hw.size, fun _ h => h, fun b hb => hw.old b (himm b hb), fun _ _ h => h, fun b hb _ => hw.old b hb, fun _ h => .inl h, fun _ _ h => .inl h⟩
theorem Sim.grow {f : Nat → Option Blk} {w' : World} (h : Sim ν x f) (hw : Grow x.w w') : Sim ν ⟨w', x.I, x.β⟩ f :=
  ⟨fun l blk b base tot h1 h2 => ⟨(h.own l blk b base tot h1 h2).1, (h.own l blk b base tot h1 h2).2.mono (Step.grow hw h.imm).le (hw.old b (h.bnd l b base tot h2))⟩,
    h.inj, fun b hb => Nat.lt_of_lt_of_le (h.imm b hb) hw.size, fun l b base tot hb => Nat.lt_of_lt_of_le (h.bnd l b base tot hb) hw.size, gd_le (Step.grow hw h.imm).le h.gd⟩
def putβ (β : Nat → Option (Nat × Nat × Nat)) (L : Nat) (p : Nat × Nat × Nat) : Nat → Option (Nat × Nat × Nat) := fun l => if l = L then some p else β l
def putF (f : Nat → Option Blk) (L : Nat) (b : Option Blk) : Nat → Option Blk := fun l => if l = L then b else f l
/-- a new block of the call's own -/
theorem step_new {w' : World} {L n base tot : Nat} (hw : Grow x.w w') (hn : x.w.heap.size ≤ n) (hL : x.β L = none) (himm : ∀ b, x.I b → b < x.w.heap.size) :
    Step x ⟨w', x.I, putβ x.β L (n, base, tot)⟩ := by
  refine ⟨hw.os, hw.tape, hw.output, hw.size, fun _ h => h, fun b hb => hw.old b (himm b hb), fun l p hp => ?_, fun b hb _ => hw.old b hb, fun _ h => .inl h, fun l p hp => ?_⟩
  · have : l ≠ L := fun e => by rw [e, hL] at hp; cases hp
    simp [putβ, this, hp]
  · by_cases e : l = L
    · simp only [putβ, e, if_true, Option.some.injEq] at hp
      exact .inr (.inl (hp ▸ hn))
    · simp only [putβ, e, if_false] at hp
      exact .inl hp
theorem sim_new {f : Nat → Option Blk} {w' : World} {L n base tot : Nat} {blk : Blk} (h : Sim ν x f) (hw : Grow x.w w') (hn : x.w.heap.size ≤ n) (hnw : n < w'.heap.size) (hL : x.β L = none)
    (hb : BlkR ν ⟨w', x.I, putβ x.β L (n, base, tot)⟩ n base tot blk) : Sim ν ⟨w', x.I, putβ x.β L (n, base, tot)⟩ (putF f L (some blk)) := by
  have hle := (step_new (base := base) (tot := tot) hw hn hL h.imm).le
  refine ⟨fun l blk' b base' tot' h1 h2 => ?_, fun l l' b base' tot' base'' tot'' h1 h1' h2 h2' => ?_, fun b hb => Nat.lt_of_lt_of_le (h.imm b hb) hw.size, fun l b base' tot' h2 => ?_, gd_le hle h.gd⟩
  · by_cases e : l = L
    · subst e
      simp only [putβ, if_true, Option.some.injEq, Prod.mk.injEq] at h2
      simp only [putF, if_true, Option.some.injEq] at h1
      obtain ⟨rfl, rfl, rfl⟩ := h2
      subst h1
      exact ⟨fun hI => by have := h.imm _ hI; omega, hb⟩
    · simp only [putβ, e, if_false] at h2
      simp only [putF, e, if_false] at h1
      obtain ⟨a1, a2⟩ := h.own l blk' b base' tot' h1 h2
      exact ⟨a1, a2.mono hle (hw.old b (h.bnd l b base' tot' h2))⟩
  · by_cases e : l = L <;> by_cases e' : l' = L
    · exact e.trans e'.symm
    · simp only [putβ, e, if_true, Option.some.injEq, Prod.mk.injEq] at h2
      simp only [putβ, e', if_false] at h2'
      have := h.bnd l' b base'' tot'' h2'
      obtain ⟨h2, _, _⟩ := h2
      omega
    · simp only [putβ, e', if_true, Option.some.injEq, Prod.mk.injEq] at h2'
      simp only [putβ, e, if_false] at h2
      have := h.bnd l b base' tot' h2
      obtain ⟨h2', _, _⟩ := h2'
      omega
    · simp only [putβ, e, if_false] at h2
      simp only [putβ, e', if_false] at h2'
      simp only [putF, e, if_false] at h1
      simp only [putF, e', if_false] at h1'
      exact h.inj l l' b base' tot' base'' tot'' h1 h1' h2 h2'
  · by_cases e : l = L
    · simp only [putβ, e, if_true, Option.some.injEq, Prod.mk.injEq] at h2
      obtain ⟨h2, _, _⟩ := h2
      show b < w'.heap.size
      omega
    · simp only [putβ, e, if_false] at h2
      exact Nat.lt_of_lt_of_le (h.bnd l b base' tot' h2) hw.size
variable {P : Program} {w : World}
theorem info_of_cells {t : TypeId} (h : P.cellsOf t ≠ 0) : ∃ i, P.info? t = some i ∧ i.size = P.cellsOf t := by
  unfold Program.cellsOf at h ⊢
  cases hi : P.info? t with
  | none => simp [hi] at h
  | some i => exact ⟨i, rfl, by simp⟩
theorem run_sizeOf' {t : TypeId} (h : P.cellsOf t ≠ 0) : (sizeOf t).run P w = .ok (P.cellsOf t) w := by
  obtain ⟨i, hi, hs⟩ := info_of_cells h
  simp [sizeOf, typeInfo, hi, hs]
theorem run_isAgg' {t : TypeId} (h : (P.underlying t).isNone = false) : (isAgg t).run P w = .ok (isAggT P t) w := by
  cases hu : P.underlying t with
  | none => simp [hu] at h
  | some d => unfold isAgg isAggT; rw [Sem.run_bind, run_underlying hu w]; simp only [hu, Result.andThen]; cases d <;> rfl
theorem Addr.add0 (b o n : Nat) : (⟨b, o, none⟩ : Addr).add n = ⟨b, o + n, none⟩ := by unfold Addr.add; split <;> simp_all
end
end Go.Abs
end
section
namespace Go.Abs
variable [Glob]
section
variable {ν : List (Nat × Nat)} {x : X} {f : Nat → Option Blk} {P : Program}
mutual
theorem constD_sound : ∀ (v : Value) (d : D), constD v = some d → RD ν x v d
  | .bool b, d, h => by simp [constD] at h; subst h; exact .bool b
  | .int k n, d, h => by simp [constD] at h; subst h; exact .int k n
  | .string ⟨⟨s⟩⟩, d, h => by
    simp only [constD] at h
    split at h
    · rename_i hs
      simp only [Option.some.injEq] at h
      subst h
      exact .str s (by simpa [maxLen, ByteArray.size] using hs)
    · cases h
  | .pointer none, d, h => by simp [constD] at h; subst h; exact .nilp
  | .slice none 0 0, d, h => by simp [constD] at h; subst h; exact .nils
  | .nilFunc, d, h => by simp [constD] at h; subst h; exact .nilf
  | .agg ⟨cs⟩, d, h => by
    simp only [constD] at h
    split at h
    · rename_i hone
      cases hc : constDs cs with
      | none => simp [hc] at h
      | some ds =>
        simp [hc] at h
        subst h
        obtain ⟨hl, hr⟩ := constDs_sound cs ds hc
        refine .agg ⟨cs⟩ ds (by simpa using hl) (fun i hi => ?_) (fun i hi => by simpa using hr i hi)
        have := cellsOne_sound cs hone i (by omega)
        simpa using this
    · cases h
  | .float _ _, d, h => by simp [constD] at h
  | .complex _ _ _, d, h => by simp [constD] at h
  | .pointer (some _), d, h => by simp [constD] at h
  | .slice (some _) _ _, d, h => by simp [constD] at h
  | .slice none (_ + 1) _, d, h => by simp [constD] at h
  | .slice none 0 (_ + 1), d, h => by simp [constD] at h
  | .map _, d, h => by simp [constD] at h
  | .chan _, d, h => by simp [constD] at h
  | .func _ _ _, d, h => by simp [constD] at h
  | .iface _ _, d, h => by simp [constD] at h
  | .nilIface, d, h => by simp [constD] at h
  | .tuple _, d, h => by simp [constD] at h
theorem constDs_sound : ∀ (vs : List Value) (ds : List D), constDs vs = some ds → vs.length = ds.length ∧ ∀ i, i < ds.length → RD ν x (vs.getD i undef) (ds.getD i .any)
  | [], ds, h => by simp [constDs] at h; subst h; simp
  | v :: r, ds, h => by
    simp only [constDs] at h
    split at h
    · rename_i d ds' h1 h2
      simp only [Option.some.injEq] at h
      subst h
      have a := constD_sound v d h1
      obtain ⟨b1, b2⟩ := constDs_sound r ds' h2
      refine ⟨by simp [b1], fun i hi => ?_⟩
      cases i with
      | zero => simpa using a
      | succ i => simpa using b2 i (by simpa using hi)
    · cases h
theorem cellsOne_sound : ∀ (vs : List Value), cellsOne vs = true → ∀ i, i < vs.length → (vs.getD i undef).oneCell' = true
  | [], _, i, hi => by simp at hi
  | v :: r, h, i, hi => by
    simp only [cellsOne, Bool.and_eq_true] at h
    cases i with
    | zero => simp; cases v <;> simp_all [Value.oneCell']
    | succ i => simpa using cellsOne_sound r h.2 i (by simpa using hi)
end
/-- what an operation does: a value, a world; the store afterwards -/
def Did (ν : List (Nat × Nat)) (x : X) (f : Nat → Option Blk) (L : Nat) (d : D) (r : Result Next) : Prop :=
  ∃ v x', (r = .ok (.value v) x'.w ∨ r = .ok .skip x'.w ∧ v = undef) ∧ Step x x' ∧ RD ν x' v d ∧ Sim ν x' f ∧ ∀ l, l ≠ L → x'.β l = x.β l
theorem did_pure {L : Nat} {d : D} {v : Value} {r : Result Next} (hs : Sim ν x f) (hr : r = .ok (.value v) x.w) (hd : RD ν x v d) : Did ν x f L d r :=
  ⟨v, x, .inl hr, .refl x, hd, hs, fun _ _ => rfl⟩
/-- the operands -/
def Rho (C : CC) (defs : List (Option Nat)) (ρ : Src → Ent) (ev : Operand → Value) (x : X) (os : List Operand) : Prop :=
  ∀ o, o ∈ os → ∀ s, C.src defs o = some s → (ρ s).ok = true → RD C.ν x (ev o) (ρ s).d
theorem RD.bool_inv {v : Value} {b : Bool} (h : RD ν x v (.bool b)) : v = .bool b := by cases h; rfl
theorem RD.int_inv {v : Value} {k : IntKind} {n : Int} (h : RD ν x v (.int k n)) : v = .int k n := by cases h; rfl
theorem RD.str_inv {v : Value} {s : List UInt8} (h : RD ν x v (.str s)) : v = .string ⟨⟨s⟩⟩ ∧ s.length ≤ maxLen := by cases h; exact ⟨rfl, ‹_›⟩
theorem RD.pick {b : Bool} {u v : Value} {d e : D} (h1 : b = true → RD ν x u d) (h2 : b = false → RD ν x v e) : RD ν x (if b then u else v) (D.pick b d e) := by
  cases b
  · have := h2 rfl
    simp only [Bool.false_eq_true, if_false]
    cases d <;> cases e <;> simp only [D.pick, cond_false] <;> exact this
  · have := h1 rfl
    simp only [if_true]
    cases d <;> cases e <;> simp only [D.pick, cond_true] <;> exact this
theorem run_bin_int {op : BinOp} {t : TypeId} {k k' : IntKind} {a b : Int} (w : World) (hb : binO op (.int k a) (.int k' b)) :
    ∃ v, (binOp op t (.int k a) (.int k' b)).run P w = .ok v w ∧ RD ν x v (binV op (.int k a) (.int k' b)) := by
  cases op <;> simp only [binO] at hb <;> simp only [binOp, binV, ne_eq]
  case shl => exact ⟨_, by simp [Op.shift, show ¬ b < 0 by omega], .int _ _⟩
  case shr => exact ⟨_, by simp [Op.shift, show ¬ b < 0 by omega], .int _ _⟩
  case quo => obtain ⟨rfl, hb⟩ := hb; exact ⟨_, by simp [Op.intDiv, hb], .int _ _⟩
  case rem => obtain ⟨rfl, hb⟩ := hb; exact ⟨_, by simp [Op.intDiv, hb], .int _ _⟩
  case and => subst hb; exact ⟨_, by simp [Op.intBits], .int _ _⟩
  case or => subst hb; exact ⟨_, by simp [Op.intBits], .int _ _⟩
  case xor => subst hb; exact ⟨_, by simp [Op.intBits], .int _ _⟩
  case andNot => subst hb; exact ⟨_, by simp [Op.intBits], .int _ _⟩
  case add => subst hb; exact ⟨_, by simp [Op.intArith], .int _ _⟩
  case sub => subst hb; exact ⟨_, by simp [Op.intArith], .int _ _⟩
  case mul => subst hb; exact ⟨_, by simp [Op.intArith], .int _ _⟩
  case eql => subst hb; exact ⟨_, by simp [Op.intCmp], .bool _⟩
  case neq => subst hb; exact ⟨_, by simp [Op.intCmp], .bool _⟩
  case lss => subst hb; exact ⟨_, by simp [Op.intCmp], .bool _⟩
  case leq => subst hb; exact ⟨_, by simp [Op.intCmp], .bool _⟩
  case gtr => subst hb; exact ⟨_, by simp [Op.intCmp], .bool _⟩
  case geq => subst hb; exact ⟨_, by simp [Op.intCmp], .bool _⟩
theorem bytes_append (a b : List UInt8) : (⟨⟨a⟩⟩ : ByteArray) ++ ⟨⟨b⟩⟩ = ⟨⟨a ++ b⟩⟩ := by
  have h : ((⟨⟨a⟩⟩ : ByteArray) ++ ⟨⟨b⟩⟩).data = (⟨a ++ b⟩ : Array UInt8) := by
    rw [ByteArray.data_append]; simp
  exact congrArg ByteArray.mk h
theorem run_bin_str {op : BinOp} {t : TypeId} {a b : List UInt8} (w : World) (hb : binO op (.str a) (.str b)) :
    ∃ v, (binOp op t (.string ⟨⟨a⟩⟩) (.string ⟨⟨b⟩⟩)).run P w = .ok v w ∧ RD ν x v (binV op (.str a) (.str b)) := by
  have hs : ∀ l : List UInt8, (⟨⟨l⟩⟩ : ByteArray).size = l.length := fun _ => rfl
  cases op <;> simp only [binO] at hb <;> simp only [binOp, binV]
  case add =>
    refine ⟨.string ⟨⟨a ++ b⟩⟩, ?_, .str _ (by simp [maxLen]; omega)⟩
    have : ¬ (((⟨⟨a⟩⟩ : ByteArray).size + (⟨⟨b⟩⟩ : ByteArray).size : Nat) : Int) > IntKind.i64.max := by
      rw [hs, hs]
      simp only [IntKind.max, IntKind.signed, IntKind.bits, if_true]
      omega
    simp only [Op.stringOp, this, if_false, Sem.run_pure, bytes_append]
  all_goals
    refine ⟨_, by simp only [Op.stringOp, Sem.run_pure]; rfl, ?_⟩
    simp only [ByteArray.toList_eq]
    exact .bool _
theorem eqGuard_bin (op : BinOp) (t : TypeId) (p q : Operand) {u v : Value} (h : (∀ cs, u ≠ .agg cs) ∧ u ≠ .nilIface) (w : World) : (eqGuard op t p q u v).run P w = .ok () w := by
  obtain ⟨h1, h2⟩ := h
  unfold eqGuard
  cases op <;> simp <;> (split <;> first | rfl | simp_all)
theorem rangeD_take_drop {α : Type} (l : List α) (o n : Nat) (d : α) (j : Nat) (hj : j < n) : ((l.drop o).take n).getD j d = l.getD (o + j) d := by
  simp [List.getD, List.getElem?_take, hj, List.getElem?_drop]
theorem length_take_drop {α : Type} (l : List α) (o n : Nat) (h : o + n ≤ l.length) : ((l.drop o).take n).length = n := by
  simp; omega
theorem toList_getD (cs : Array Value) (i : Nat) (d : Value) : cs.toList.getD i d = cs.getD i d := by
  simp [List.getD, Array.getD]
  split <;> simp_all
/-- a part of a struct's or an array's value -/
theorem run_part {t : TypeId} {cs : Array Value} {ds : List D} {off n : Nat} {ag : Bool} (w : World) (hv : RD ν x (.agg cs) (.agg ds)) (ht : P.cellsOf t ≠ 0) (hu : (P.underlying t).isNone = false)
    (hn : n = P.cellsOf t) (hag : ag = isAggT P t) (hle : off + n ≤ ds.length) (h1 : ag = false → n = 1) :
    ∃ v, (part t cs off).run P w = .ok v w ∧ RD ν x v (cut ds off n ag) := by
  cases hv with
  | agg _ _ hl hone h =>
    unfold part
    rw [Sem.run_bind, run_isAgg' hu]
    subst hag
    cases hb : isAggT P t
    · have hn1 := h1 (by rw [hb])
      have hlt : off < cs.size := by omega
      refine ⟨cs.getD off undef, ?_, ?_⟩
      · simp [Result.andThen, Array.getElem?_eq_getElem hlt, Array.getD, hlt]
      · simp only [cut, cond_false]
        exact h off (by omega)
    · refine ⟨.agg (cs.extract off (off + n)), ?_, ?_⟩
      · simp [Result.andThen, run_sizeOf' ht, hn]
      · simp only [cut, cond_true]
        refine .agg _ _ ?_ ?_ ?_
        · simp; omega
        · intro i hi
          simp at hi
          have := hone (off + i) (by omega)
          rw [← this]
          congr 1
          simp [Array.getD, show off + i < cs.size by omega, show i < min (off + n) cs.size - off by omega]
        · intro i hi
          simp at hi
          rw [rangeD_take_drop _ _ _ _ _ (by omega)]
          have := h (off + i) (by omega)
          have e : (cs.extract off (off + n)).getD i undef = cs.getD (off + i) undef := by
            simp [Array.getD, show off + i < cs.size by omega, show i < min (off + n) cs.size - off by omega]
          rw [e]
          exact this
end
end Go.Abs
end
section
namespace Go.Abs
variable [Glob]
section
variable {x : X} {f : Nat → Option Blk} {C : CC} {defs : List (Option Nat)} {ρ : Src → Ent} {ev : Operand → Value} {Γ : Ctx} {m : List (Nat × Blk)} {L : Nat}
theorem srcs_sound {os' : List Operand} (hρ : Rho C defs ρ ev x os') : ∀ (os : List Operand) (ss : List Src), (∀ o ∈ os, o ∈ os') → C.srcs defs os = some ss → oks ρ ss →
    os.length = ss.length ∧ (dds ρ ss).length = os.length ∧ ∀ i, i < (dds ρ ss).length → RD C.ν x ((os.map ev).getD i undef) ((dds ρ ss).getD i .any)
  | [], ss, _, h, _ => by simp [CC.srcs] at h; subst h; simp [dds]
  | o :: r, ss, hm, h, hk => by
    simp only [CC.srcs] at h
    split at h
    · rename_i a l h1 h2
      simp only [Option.some.injEq] at h
      subst h
      simp only [oks] at hk
      obtain ⟨b1, b2, b3⟩ := srcs_sound hρ r l (fun o ho => hm o (.tail _ ho)) h2 hk.2
      refine ⟨by simp [b1], by simp [dds, b2], fun i hi => ?_⟩
      cases i with
      | zero => simpa [dds] using hρ o (hm o (.head _)) a h1 hk.1
      | succ i => simpa [dds] using b3 i (by simpa [dds] using hi)
    · cases h
theorem fold_set (off : Nat) : ∀ (new : List Value) (st : Nat) (acc : Array Value), off + st + new.length ≤ acc.size →
    ((new.zipIdx st).foldl (fun cs (c, j) => cs.setIfInBounds (off + j) c) acc).size = acc.size ∧
    ∀ q, ((new.zipIdx st).foldl (fun cs (c, j) => cs.setIfInBounds (off + j) c) acc)[q]? = if off + st ≤ q ∧ q < off + st + new.length then new[q - (off + st)]? else acc[q]?
  | [], st, acc, _ => ⟨by simp, fun q => by simp; omega⟩
  | c :: r, st, acc, hb => by
    simp only [List.length_cons] at hb
    obtain ⟨h1, h2⟩ := fold_set off r (st + 1) (acc.setIfInBounds (off + st) c) (by simp; omega)
    refine ⟨by simpa [List.zipIdx_cons] using h1, fun q => ?_⟩
    rw [List.zipIdx_cons, List.foldl_cons, h2 q]
    simp only [List.length_cons]
    by_cases q1 : off + (st + 1) ≤ q ∧ q < off + (st + 1) + r.length
    · rw [if_pos q1, if_pos (by omega), show q - (off + st) = (q - (off + (st + 1))) + 1 by omega]; simp
    · rw [if_neg q1, Array.getElem?_setIfInBounds]
      by_cases q2 : off + st = q
      · subst q2
        rw [if_pos rfl, if_pos (by omega)]
        simp
      · rw [if_neg q2, if_neg (by omega)]
theorem parts_sound {os' : List Operand} (hρ : Rho C defs ρ ev x os') (place : Nat → Option (Nat × Nat)) (len : Nat) : ∀ (ps : List (Nat × Operand)) (ss : List (Nat × Nat × Src)),
    (∀ p ∈ ps, p.2 ∈ os') → C.parts defs place ps = some ss → fillO ρ len ss → ∀ (cs : Array Value) (ds : List D), cs.size = len → RD C.ν x (.agg cs) (.agg ds) →
    ∃ cs', Instr.fill place cs (ps.map fun (i, o) => (i, ev o)) = some cs' ∧ RD C.ν x (.agg cs') (.agg (fillP ρ ds ss))
  | [], ss, _, h, _, cs, ds, _, hr => by simp [CC.parts] at h; subst h; exact ⟨cs, by simp [Instr.fill], by simpa [fillP] using hr⟩
  | (i, o) :: r, ss, hm, h, hk, cs, ds, hlen, hr => by
    simp only [CC.parts] at h
    split at h
    · rename_i off n s l h1 h2 h3
      split at h
      · cases h
      rename_i hn0
      simp only [Option.some.injEq] at h
      subst h
      simp only [fillO] at hk
      obtain ⟨k1, k2, k3, k4⟩ := hk
      have hn : 0 < n := by omega
      have hv := hρ o (hm _ (.head _)) s h2 k1
      obtain ⟨c1, c2⟩ := hv.cells (by omega)
      have hsz : (ev o).cells.size = n := by omega
      cases hr with
      | agg _ _ hl hone hh =>
      let cs1 : Array Value := ((ev o).cells.toList.zipIdx 0).foldl (fun cs (c, j) => cs.setIfInBounds (off + j) c) cs
      have harr : (ev o).cells.zipIdx.foldl (fun cs (c, j) => cs.setIfInBounds (off + j) c) cs = cs1 := by
        rw [← Array.foldl_toList]; simp [cs1]
      have hcs1 := harr
      obtain ⟨hsz1, hgq⟩ := fold_set off (ev o).cells.toList 0 cs (by simp; omega)
      have hget : ∀ q, q < cs.size → cs1.getD q undef = if q < off then cs.getD q undef else if q < off + n then (ev o).cells.getD (q - off) undef else cs.getD q undef := by
        intro q hq
        have := hgq q
        rw [← toList_getD, ← toList_getD cs, ← toList_getD (ev o).cells]
        simp only [List.getD, Array.getElem?_toList]
        rw [show cs1[q]? = _ from this]
        simp only [Array.length_toList, hsz, Nat.add_zero]
        by_cases q1 : q < off
        · rw [if_pos q1, if_neg (by omega)]
        · rw [if_neg q1]
          by_cases q2 : q < off + n
          · rw [if_pos q2, if_pos (by omega)]; simp
          · rw [if_neg q2, if_neg (by omega)]
      have hsz1 : cs1.size = cs.size := hsz1
      have hdlen : (over ds off (ρ s).d.cells).length = ds.length := by simp [over]; omega
      have hdget : ∀ q, q < ds.length → (over ds off (ρ s).d.cells).getD q .any = if q < off then ds.getD q .any else if q < off + n then (ρ s).d.cells.getD (q - off) .any else ds.getD q .any := by
        intro q hq
        simp only [over, List.getD, List.getElem?_append, List.length_take]
        by_cases q1 : q < off
        · rw [if_pos (by omega), if_pos q1]; simp [List.getElem?_take, q1]
        · rw [if_neg (by omega), if_neg q1, show q - min off ds.length = q - off by omega]
          by_cases q2 : q < off + n
          · rw [if_pos q2, if_pos (by omega)]
          · rw [if_neg q2, if_neg (by omega)]; simp only [List.getElem?_drop]; congr 3; omega
      have hr1 : RD C.ν x (.agg cs1) (.agg (over ds off (ρ s).d.cells)) := by
        refine .agg _ _ (by omega) (fun q hq => ?_) (fun q hq => ?_)
        · rw [hdlen] at hq
          rw [hget q (by omega)]
          split
          · exact hone q hq
          · split
            · exact (c2 (q - off) (by omega)).1
            · exact hone q hq
        · rw [hdlen] at hq
          rw [hget q (by omega), hdget q hq]
          split
          · exact hh q hq
          · split
            · exact (c2 (q - off) (by omega)).2
            · exact hh q hq
      obtain ⟨cs', g1, g2⟩ := parts_sound hρ place len r l (fun p hp => hm p (.tail _ hp)) h3 k4 cs1 _ (by omega) hr1
      refine ⟨cs', ?_, by simpa [fillP] using g2⟩
      simp only [List.map_cons, Instr.fill, h1]
      rw [if_neg (by simp [hsz]; omega), hcs1]
      exact g1
    · cases h
end
section
variable {ν : List (Nat × Nat)} {x : X} {P : Program}
theorem fitsK_len : ∀ (ks : List CK) (ds : List D), fitsK ks ds → ds.length = ks.length
  | [], [], _ => rfl
  | [], _ :: _, h => by simp [fitsK] at h
  | _ :: _, [], h => by simp [fitsK] at h
  | c :: r, d :: ds, h => by have := fitsK_len r ds (by simp [fitsK] at h; exact h.2); simp; omega
theorem fitsK_append : ∀ (a b : List CK) (ds : List D), fitsK (a ++ b) ds → fitsK a (ds.take a.length) ∧ fitsK b (ds.drop a.length)
  | [], b, ds, h => by simpa [fitsK] using h
  | c :: r, b, [], h => by simp [fitsK] at h
  | c :: r, b, d :: ds, h => by
    simp only [List.cons_append, fitsK] at h
    obtain ⟨h1, h2⟩ := fitsK_append r b ds h.2
    exact ⟨by simp [fitsK, h.1, h1], by simpa using h2⟩
theorem eqDs_split : ∀ (n : Nat) (ds es : List D), ds.length = es.length → eqDs ds es = (eqDs (ds.take n) (es.take n) && eqDs (ds.drop n) (es.drop n))
  | 0, ds, es, _ => by simp [eqDs]
  | n + 1, [], [], _ => by simp [eqDs]
  | n + 1, [], _ :: _, h => by simp at h
  | n + 1, _ :: _, [], h => by simp at h
  | n + 1, d :: ds, e :: es, h => by
    simp only [eqDs, List.take_succ_cons, List.drop_succ_cons]
    rw [eqDs_split n ds es (by simpa using h), Bool.and_assoc]
theorem fits_scalar {c : CK} {d : D} (h : c.fits d) : d.cells = [d] ∧ d.isAgg = false := by
  cases c <;> cases d <;> simp_all [CK.fits, D.cells, D.isAgg]
theorem fits_one {c : CK} {d : D} (h : fitsK [c] d.cells) (ha : d.isAgg = false) : c.fits d := by
  cases d <;> simp_all [D.cells, D.isAgg, fitsK]
theorem cut_cells {ds : List D} {off n : Nat} {ag : Bool} {ks : List CK} (h : fitsK ks ((ds.drop off).take n)) (hn : ag = false → n = 1) (hle : off + n ≤ ds.length) :
    (cut ds off n ag).cells = (ds.drop off).take n ∧ (cut ds off n ag).isAgg = ag := by
  cases ag
  · have := hn rfl
    subst this
    have hlt : off < ds.length := by omega
    have e : (ds.drop off).take 1 = [ds.getD off .any] := by
      rw [List.drop_eq_getElem_cons hlt]; simp [List.getD, hlt, List.take]
    rw [e] at h ⊢
    cases ks with
    | nil => simp [fitsK] at h
    | cons c r =>
      simp only [fitsK] at h
      exact fits_scalar h.1
  · exact ⟨rfl, rfl⟩
def EqRuns (ν : List (Nat × Nat)) (x : X) (P : Program) (n : Nat) (t : TypeId) (ks : List CK) : Prop :=
  ∀ u v d e (w : World), RD ν x u d → RD ν x v e → d.isAgg = isAggT P t → e.isAgg = isAggT P t → fitsK ks d.cells → fitsK ks e.cells →
    (Op.equalIn n t u v).run P w = .ok (eqDs d.cells e.cells) w
theorem isAggT_one {n : Nat} {t : TypeId} {ks : List CK} (h : kindsOf P n t = some ks) (ha : isAggT P t = false) : ks.length = 1 := by
  cases n with
  | zero => simp [kindsOf] at h
  | succ n =>
    simp only [kindsOf] at h
    unfold isAggT at ha
    cases hu : P.underlying t with
    | none => simp [hu] at h
    | some d => cases d <;> simp_all <;> subst h <;> rfl
theorem eqFields_run (n depth : Nat) (ih : ∀ t ks, kindsOf P depth t = some ks → EqRuns ν x P n t ks) (xs ys : Array Value) (ds es : List D) (h1 : RD ν x (.agg xs) (.agg ds)) (h2 : RD ν x (.agg ys) (.agg es)) (w : World) :
    ∀ (fs : List Field) (off : Nat) (ks : List CK), kindsFields P (fun t => kindsOf P depth t) off fs = some ks → off ≤ ds.length → off ≤ es.length → fitsK ks (ds.drop off) → fitsK ks (es.drop off) →
    (Op.eqFields n xs ys fs).run P w = .ok (eqDs (ds.drop off) (es.drop off)) w
  | [], off, ks, hk, _, _, f1, f2 => by
    simp [kindsFields] at hk
    subst hk
    have a := fitsK_len _ _ f1
    have b := fitsK_len _ _ f2
    have a' : ds.drop off = [] := List.eq_nil_of_length_eq_zero a
    have b' : es.drop off = [] := List.eq_nil_of_length_eq_zero b
    rw [a', b']
    simp [Op.eqFields, eqDs]
  | f :: fs, off, ks, hk, l1, l2, f1, f2 => by
    simp only [kindsFields] at hk
    split at hk
    · cases hk
    · rename_i hne
      have hname : f.name ≠ "_" := fun e => hne (.inl e)
      have hoff : f.offset = off := by
        rcases Nat.decEq f.offset off with h | h
        · exact absurd (.inr h) hne
        · exact h
      split at hk
      · rename_i a b ha hb
        split at hk
        · rename_i hlen
          obtain ⟨hlen, hnz, hund⟩ := hlen
          simp only [Option.some.injEq] at hk
          subst hk
          obtain ⟨fa1, fb1⟩ := fitsK_append a b _ f1
          obtain ⟨fa2, fb2⟩ := fitsK_append a b _ f2
          have la := fitsK_len _ _ f1
          have lb := fitsK_len _ _ f2
          simp only [List.length_drop, List.length_append] at la lb
          have hag : isAggT P f.type = false → P.cellsOf f.type = 1 := fun e => by rw [← hlen]; exact isAggT_one ha e
          obtain ⟨u, r1, r2⟩ := run_part (P := P) (off := off) (n := P.cellsOf f.type) (ag := isAggT P f.type) w h1 (by omega) hund rfl rfl (by omega) hag
          obtain ⟨v, s1, s2⟩ := run_part (P := P) (off := off) (n := P.cellsOf f.type) (ag := isAggT P f.type) w h2 (by omega) hund rfl rfl (by omega) hag
          rw [hlen] at fa1 fa2 fb1 fb2
          obtain ⟨c1, c2⟩ := cut_cells (ag := isAggT P f.type) fa1 hag (by omega)
          obtain ⟨d1, d2⟩ := cut_cells (ag := isAggT P f.type) fa2 hag (by omega)
          have he := ih f.type a ha u v _ _ w r2 s2 c2 d2 (by rw [c1]; exact fa1) (by rw [d1]; exact fa2)
          rw [List.drop_drop] at fb1 fb2
          have hrest := eqFields_run n depth ih xs ys ds es h1 h2 w fs (off + P.cellsOf f.type) b hb (by omega) (by omega) fb1 fb2
          rw [eqDs_split (P.cellsOf f.type) (ds.drop off) (es.drop off) (by simp; omega)]
          simp only [Op.eqFields, hname, ne_eq, not_false_eq_true, if_true, Sem.run_bind, hoff, r1, s1, he, Result.andThen_ok, Sem.run_ite, hrest]
          rw [c1, d1, List.drop_drop, List.drop_drop]
          cases eqDs ((ds.drop off).take (P.cellsOf f.type)) ((es.drop off).take (P.cellsOf f.type)) <;> simp
        · cases hk
      · cases hk
theorem eqItems_run (n : Nat) (e : TypeId) (l : List CK) (ih : EqRuns ν x P n e l) (hc : l.length = P.cellsOf e) (hnz : l.length ≠ 0) (hund : (P.underlying e).isNone = false) (hag : isAggT P e = false → P.cellsOf e = 1)
    (xs ys : Array Value) (ds es : List D) (h1 : RD ν x (.agg xs) (.agg ds)) (h2 : RD ν x (.agg ys) (.agg es)) (w : World) :
    ∀ (len j : Nat), j * P.cellsOf e ≤ ds.length → j * P.cellsOf e ≤ es.length → fitsK (List.replicate len l).flatten (ds.drop (j * P.cellsOf e)) → fitsK (List.replicate len l).flatten (es.drop (j * P.cellsOf e)) →
    (Op.eqItems n e (P.cellsOf e) xs ys (List.range' j len)).run P w = .ok (eqDs (ds.drop (j * P.cellsOf e)) (es.drop (j * P.cellsOf e))) w
  | 0, j, _, _, f1, f2 => by
    have a := fitsK_len _ _ f1
    have b := fitsK_len _ _ f2
    have a' : ds.drop (j * P.cellsOf e) = [] := List.eq_nil_of_length_eq_zero (by simpa using a)
    have b' : es.drop (j * P.cellsOf e) = [] := List.eq_nil_of_length_eq_zero (by simpa using b)
    rw [a', b']
    simp [Op.eqItems, eqDs]
  | len + 1, j, l1, l2, f1, f2 => by
    simp only [List.replicate_succ, List.flatten_cons] at f1 f2
    obtain ⟨fa1, fb1⟩ := fitsK_append _ _ _ f1
    obtain ⟨fa2, fb2⟩ := fitsK_append _ _ _ f2
    have la := fitsK_len _ _ f1
    have lb := fitsK_len _ _ f2
    simp only [List.length_drop, List.length_append] at la lb
    have hj : (j + 1) * P.cellsOf e = j * P.cellsOf e + P.cellsOf e := Nat.succ_mul _ _
    obtain ⟨u, r1, r2⟩ := run_part (P := P) (off := j * P.cellsOf e) (n := P.cellsOf e) (ag := isAggT P e) w h1 (by omega) hund rfl rfl (by omega) hag
    obtain ⟨v, s1, s2⟩ := run_part (P := P) (off := j * P.cellsOf e) (n := P.cellsOf e) (ag := isAggT P e) w h2 (by omega) hund rfl rfl (by omega) hag
    rw [hc] at fa1 fa2 fb1 fb2
    obtain ⟨c1, c2⟩ := cut_cells (ag := isAggT P e) fa1 hag (by omega)
    obtain ⟨d1, d2⟩ := cut_cells (ag := isAggT P e) fa2 hag (by omega)
    have he := ih u v _ _ w r2 s2 c2 d2 (by rw [c1]; exact fa1) (by rw [d1]; exact fa2)
    rw [List.drop_drop, ← hj] at fb1 fb2
    have hrest := eqItems_run n e l ih hc hnz hund hag xs ys ds es h1 h2 w len (j + 1) (by omega) (by omega) fb1 fb2
    rw [eqDs_split (P.cellsOf e) (ds.drop (j * P.cellsOf e)) (es.drop (j * P.cellsOf e)) (by simp; omega)]
    simp only [List.range'_succ, Op.eqItems, Sem.run_bind, r1, s1, he, Result.andThen_ok, Sem.run_ite, hrest]
    rw [c1, d1, List.drop_drop, List.drop_drop, ← hj]
    cases eqDs ((ds.drop (j * P.cellsOf e)).take (P.cellsOf e)) ((es.drop (j * P.cellsOf e)).take (P.cellsOf e)) <;> simp
theorem equalIn_run : ∀ (depth : Nat) (t : TypeId) (ks : List CK), kindsOf P depth t = some ks → ∀ n, depth ≤ n → EqRuns ν x P n t ks
  | 0, t, ks, h, _, _ => by simp [kindsOf] at h
  | depth + 1, t, ks, h, n, hn => by
    obtain ⟨n, rfl⟩ : ∃ k, n = k + 1 := ⟨n - 1, by omega⟩
    intro u v d e w r1 r2 a1 a2 f1 f2
    simp only [kindsOf] at h
    split at h
    · rename_i hu
      simp only [Option.some.injEq] at h
      subst h
      have hag : isAggT P t = false := by simp [isAggT, hu]
      rw [hag] at a1 a2
      have g1 := fits_one f1 a1
      have g2 := fits_one f2 a2
      cases d <;> simp only [CK.fits] at g1
      cases e <;> simp only [CK.fits] at g2
      rw [r1.bool_inv, r2.bool_inv, run_equalIn_bool w n t _ _ hu]
      simp [D.cells, eqDs, eqD]
    · rename_i k hu
      simp only [Option.some.injEq] at h
      subst h
      have hag : isAggT P t = false := by simp [isAggT, hu]
      rw [hag] at a1 a2
      have g1 := fits_one f1 a1
      have g2 := fits_one f2 a2
      cases d <;> simp only [CK.fits] at g1
      cases e <;> simp only [CK.fits] at g2
      subst g1; subst g2
      rw [r1.int_inv, r2.int_inv, run_equalIn_int w n t _ _ _ _ hu]
      simp [D.cells, eqDs, eqD]
    · rename_i hu
      simp only [Option.some.injEq] at h
      subst h
      have hag : isAggT P t = false := by simp [isAggT, hu]
      rw [hag] at a1 a2
      have g1 := fits_one f1 a1
      have g2 := fits_one f2 a2
      cases d <;> simp only [CK.fits] at g1
      cases e <;> simp only [CK.fits] at g2
      rw [r1.str_inv.1, r2.str_inv.1, run_equalIn_string w n t _ _ hu]
      simp [D.cells, eqDs, eqD, ByteArray.toList_eq]
    · rename_i fs hu
      split at h
      · cases h
      · rename_i hst
        have hag : isAggT P t = true := by simp [isAggT, hu]
        rw [hag] at a1 a2
        cases d <;> simp only [D.isAgg, Bool.false_eq_true] at a1
        cases e <;> simp only [D.isAgg, Bool.false_eq_true] at a2
        have hf : P.fieldsOf t = fs := by simp [Program.fieldsOf, hu]
        cases r1 with
        | agg xs _ p1 p2 p3 =>
          cases r2 with
          | agg ys _ q1 q2 q3 =>
            rw [run_equalIn_struct w n t xs ys (by rw [hf]; exact hu) (by simpa using hst), hf]
            have := eqFields_run (ν := ν) (x := x) n depth (fun t ks hk => equalIn_run depth t ks hk n (by omega)) xs ys _ _ (.agg xs _ p1 p2 p3) (.agg ys _ q1 q2 q3) w fs.toList 0 ks h (by simp) (by simp) (by simpa [D.cells] using f1) (by simpa [D.cells] using f2)
            simpa [D.cells] using this
    · rename_i len e' hu
      split at h
      · rename_i l hl
        split at h
        · rename_i hc
          obtain ⟨hc, hnz, hund⟩ := hc
          simp only [Option.some.injEq] at h
          subst h
          have hag : isAggT P t = true := by simp [isAggT, hu]
          rw [hag] at a1 a2
          cases d <;> simp only [D.isAgg, Bool.false_eq_true] at a1
          cases e <;> simp only [D.isAgg, Bool.false_eq_true] at a2
          obtain ⟨i, hi, _⟩ := info_of_cells (P := P) (t := e') (by omega)
          cases r1 with
          | agg xs _ p1 p2 p3 =>
            cases r2 with
            | agg ys _ q1 q2 q3 =>
              rw [run_equalIn_array w n xs ys hu hi, List.range_eq_range']
              have := eqItems_run (ν := ν) (x := x) n e' l (equalIn_run depth e' l hl n (by omega)) hc hnz hund (fun e => by rw [← hc]; exact isAggT_one hl e) xs ys _ _ (.agg xs _ p1 p2 p3) (.agg ys _ q1 q2 q3) w len 0 (by simp) (by simp) (by simpa [D.cells] using f1) (by simpa [D.cells] using f2)
              simpa [D.cells] using this
        · cases h
      · cases h
    · cases h
end
end Go.Abs
end
