/- A part of the proofs of the statements: RSpec10, RSpec11, RSpec12, RSpec13, RBldC, RSpec14, LQ, U1, T6, T7, LExt, T8, T9, T10, T1, T2, T3, T4, T5, T11, T12, T13, T14, T15, T16, T17, T18, T19, T20, T21, T22, T23, LPlain4, LPlain5, T24, T25, U2, U3, U4, U5. -/
import Derived.Test.YtpdlhpamcaocgaaGreatDoorP06
set_option linter.all false
namespace Go.Abs
theorem rL {f : Nat → Int} : ∀ {k i : Nat}, pG f i k = 0 → ∀ j, i ≤ j → j < i + k → f j = 0
 | 0, i, _, j, h1, h2 => absurd h2 (by omega)
 | k + 1, i, h, j, h1, h2 => by
  simp only [pG] at h
  by_cases hf : f i = 0
  ·rw [if_pos hf] at h
   by_cases hj : j = i
   ·rw [hj]; exact hf
   ·exact rL h j (by omega) (by omega)
  ·rw [if_neg hf] at h; exact absurd h hf
theorem xG {f : Nat → Int} {n : Nat} (h : il f 0 n = 0) (j : Nat) (hj : j < n) : f j = 0 := rL h j (by omega) (by omega)
theorem rM {f : Nat → Int} : ∀ {k i : Nat}, (kU f i k).1 = 0 → ∀ j, i ≤ j → j < i + k → f j = 0
 | 0, i, _, j, h1, h2 => absurd h2 (by omega)
 | k + 1, i, h, j, h1, h2 => by
  simp only [kU] at h
  by_cases hf : f i = 0
  ·rw [if_pos hf] at h
   by_cases hj : j = i
   ·rw [hj]; exact hf
   ·exact rM h j (by omega) (by omega)
  ·rw [if_neg hf] at h; exact absurd h hf
theorem xF {f : Nat → Int} {n : Nat} (h : (fP f 0 n).1 = 0) (j : Nat) (hj : j < n) : f j = 0 := rM h j (by omega) (by omega)
def aR.fit (w : aR) : Prop := w.sm ∧ (w.feats.length ≤ 6 ∧ ∀ t ∈ w.feats, t.length ≤ 12)
def aJ.fit (n : aJ) : Prop := (n.any.length ≤ 3 ∧ ∀ w ∈ n.any, w.fit) ∧ n.when'.length ≤ 1048576 ∧ n.option.length ≤ 1048576
def ba.fit (x : ba) : Prop := x.sm ∧ x.of.length ≤ 6
structure Rec.fit (r : Rec) : Prop where
 nm : r.name.length ≤ 1048576
 v : r.v.sm
 ns : r.needs.length ≤ 8
 n : ∀ x ∈ r.needs, x.fit
 bs : r.bars.length ≤ 8
 b : ∀ x ∈ r.bars, x.sm
 fs : r.feats.length ≤ 8
 f : ∀ x ∈ r.feats, x.fit
theorem qY {α : Type} [Inhabited α] {l : List α} {x : α} (h : x ∈ l) : ∃ i, i < l.length ∧ l[i]! = x := by
 obtain ⟨i, hi, e⟩ := List.mem_iff_getElem.1 h
 exact ⟨i, hi, by rw [← e]; simp [hi]⟩
theorem Cd {r : Rec} {w : aR} {al : Bool} (h : lF r w al = 0) (hs : w.sm) : w.fit := by
 refine ⟨hs, ?_⟩
 unfold lF at h
 split at h
 ·rename_i h1; exact absurd h h1
 ·split at h
  ·cases h
  ·rename_i h2
   simp only [pc, Bool.not_eq_false, Bool.and_eq_true, decide_eq_true_eq, en] at h2
   refine ⟨h2.1.1, fun t ht => ?_⟩
   obtain ⟨i, hi, rfl⟩ := qY ht
   have := h2.2 i (by omega) hi
   simp only [FQ, bZ, Bool.and_eq_true, decide_eq_true_eq] at this
   exact this.1.1.2
theorem Bk {r : Rec} {n : aJ} (h : jK r n = 0) (hs : n.sm) : n.fit := by
 unfold jK at h
 split at h
 ·cases h
 split at h
 ·cases h
 rename_i h1 h2
 split at h
 ·rename_i h3; exact absurd h h3
 rename_i h3
 refine ⟨⟨by omega, fun w hw => ?_⟩, hs.2⟩
 obtain ⟨i, hi, rfl⟩ := qY hw
 exact Cd (xG (Classical.not_not.1 h3) i hi) (hs.1 _ hw)
theorem zD {r : Rec} (h : tG r ∧ kD r) : r.fit := by
 obtain ⟨⟨_, ⟨h1, h2⟩, hp⟩, ⟨s1, s2⟩, s3, s4, s5⟩ := h
 have h0 : (lh r).1 = 0 ∧ ik r.feats = true := by
  unfold ee at hp
  split at hp
  ·rename_i h; rw [hp] at h; exact absurd rfl h
  split at hp
  ·rename_i h; rw [hp] at h; exact absurd rfl h
  split at hp
  ·cases hp
  rename_i a b c
  exact ⟨Classical.not_not.1 a, by simpa using c⟩
 obtain ⟨h3, h4⟩ := h0
 simp only [ik, Bool.and_eq_true, decide_eq_true_eq, en] at h4
 refine ⟨s1, s2, h1, fun x hx => ?_, h2, s4, h4.1, fun x hx => ⟨s5 x hx, ?_⟩⟩
 ·obtain ⟨i, hi, rfl⟩ := qY hx
  exact Bk (xF h3 i hi) (s3 _ hx)
 ·obtain ⟨i, hi, rfl⟩ := qY hx
  have := h4.2 i (by omega) hi
  simp only [kS, uQ, Bool.and_eq_true, decide_eq_true_eq] at this
  exact this.2.1.1
theorem kt (x : UInt8) (B : Nat) : ∀ l : List aq, (∀ t ∈ l, t.length ≤ B) → (bj [x] l).length ≤ l.length * (B + 1)
 | [], _ => by simp [bj]
 | [t], h => by have := h t (.head _); simp only [bj, List.length_cons, List.length_nil]; omega
 | t :: u :: r, h => by
  have h1 := h t (.head _)
  have h2 := kt x B (u :: r) fun y hy => h y (.tail _ hy)
  simp only [bj, List.length_append, List.length_cons, List.length_nil, Nat.succ_mul] at h2 ⊢
  omega
theorem yi {w : aR} (h : w.fit) : (bj [44] w.feats).length ≤ 6291462 := by
 have h1 := kt 44 1048576 w.feats h.1.2
 have h2 := Nat.mul_le_mul_right (1048576 + 1) h.2.1
 omega
theorem vo {w : aR} (h : w.fit) : (bj [44] w.feats).length ≤ 78 := by
 have h1 := kt 44 12 w.feats h.2.2
 have h2 := Nat.mul_le_mul_right (12 + 1) h.2.1
 omega
def iC (w : aR) : aq := bR (sQ w)
theorem uu {w : aR} (h : w.fit) : (iC w).length ≤ 8400000 := by
 have h1 := yi h
 have h2 := h.1.1
 simp only [iC, bR, sQ, bj, List.length_append, List.length_cons, List.length_nil]
 split <;> split <;> simp only [jy, ic, mB, List.length_append, List.length_cons, List.length_nil] <;> omega
theorem mZ {s : aq} (h : s.length ≤ 1048576) : (jr s).length ≤ 1048590 := by
 unfold jr; split
 ·simp
 ·simp only [bR, bj, j5, List.length_append, List.length_cons, List.length_nil]; omega
theorem Bz {s : aq} (h : s.length ≤ 1048576) : (wE s).length ≤ 1048590 := by
 unfold wE; split
 ·simp
 ·simp only [bR, bj, dH, List.length_append, List.length_cons, List.length_nil]; omega
theorem oH {α : Type} (q : α → aq) (B : Nat) {l : List α} (h : ∀ x ∈ l, (q x).length ≤ B) (i : Nat) : (((l.take i).map q).flatten).length ≤ i * B := by
 have h1 := mb q B (l.take i) fun x hx => h x (List.mem_of_mem_take hx)
 have h2 := Nat.mul_le_mul_right B (List.length_take_le i l)
 omega
theorem mL {α : Type} [Inhabited α] (q : α → aq) {l : List α} {i : Nat} (h : i < l.length) : ((l.take (i + 1)).map q).flatten = ((l.take i).map q).flatten ++ q l[i]! := by
 rw [List.take_add_one, List.getElem?_eq_getElem h, List.map_append, List.flatten_append]; simp [h]
theorem zQ {n : aJ} (h : n.fit) : (qo n).length ≤ 27400000 := by
 have h1 := mb iC 8400000 n.any fun w hw => uu (h.1.2 w hw)
 have h2 := Nat.mul_le_mul_right 8400000 h.1.1
 have h3 := mZ h.2.1
 have h4 := Bz h.2.2
 have h5 : (bR [ie]).length = 5 := rfl
 unfold iC at h1
 simp only [qo, List.length_append]; omega
theorem AH {b : ec} (h : b.sm) : (vM b).length ≤ 3145800 := by
 have h1 := mZ h.2.2
 have h2 := h.1
 have h3 := h.2.1
 simp only [vM, bR, bj, jq, List.length_append, List.length_cons, List.length_nil]; omega
theorem zy {x : ba} (h : x.fit) : (rH x).length ≤ 8400000 := by
 have h1 := kt 32 1048576 ([cO, x.name] ++ x.of) (by
  intro t ht
  simp only [List.cons_append, List.nil_append, List.mem_cons] at ht
  rcases ht with rfl | rfl | ht
  ·simp [cO]
  ·exact h.1.1
  ·exact h.1.2.2 _ ht)
 have h2 := h.2
 have h3 : ([cO, x.name] ++ x.of).length ≤ 8 := by simp only [List.length_append, List.length_cons, List.length_nil]; omega
 have h4 := Nat.mul_le_mul_right (1048576 + 1) h3
 simp only [rH, bR, List.length_append, List.length_cons, List.length_nil] at h1 h4 ⊢; omega
theorem zF {r : Rec} (h1 : r.name.length ≤ 1048576) (h2 : r.v.sm) : (oJ r).length ≤ 3145800 := by
 have h3 := wZ r.v h2
 simp only [oJ, bR, bj, dt, List.length_append, List.length_cons, List.length_nil]; omega
def cD (n : aJ) (j : Nat) : aq := bR [ie] ++ ((n.any.take j).map iC).flatten
theorem lg {n : aJ} {j : Nat} (h : j < n.any.length) : cD n (j + 1) = cD n j ++ iC n.any[j]! := by simp only [cD, mL iC h, List.append_assoc]
theorem zO {n : aJ} {j : Nat} (h : n.any.length ≤ j) : qo n = cD n j ++ jr n.when' ++ wE n.option := by
 rw [cD, List.take_of_length_le h]; rfl
theorem zP {n : aJ} (h : n.fit) (j : Nat) (hj : j ≤ 3) : (cD n j).length ≤ 25200005 := by
 have h1 := oH iC 8400000 (fun w hw => uu (h.1.2 w hw)) j
 have h2 := Nat.mul_le_mul_right 8400000 hj
 have h5 : (bR [ie]).length = 5 := rfl
 simp only [cD, List.length_append]; omega
def gY (r : Rec) (i : Nat) : aq := oJ r ++ ((r.needs.take i).map qo).flatten
def sX (r : Rec) (i : Nat) : aq := gY r r.needs.length ++ ((r.bars.take i).map vM).flatten
def vn (r : Rec) (i : Nat) : aq := sX r r.bars.length ++ ((r.feats.take i).map rH).flatten
theorem Er (r : Rec) : gY r 0 = oJ r := by simp [gY]
theorem Es (r : Rec) : sX r 0 = gY r r.needs.length := by simp [sX]
theorem Et (r : Rec) : vn r 0 = sX r r.bars.length := by simp [vn]
theorem zd (r : Rec) : vn r r.feats.length = o9 r := by simp only [vn, sX, gY, List.take_length, o9]
theorem kI {r : Rec} {i : Nat} (h : i < r.needs.length) : gY r (i + 1) = gY r i ++ qo r.needs[i]! := by simp only [gY, mL qo h, List.append_assoc]
theorem B9 {r : Rec} {i : Nat} (h : i < r.bars.length) : sX r (i + 1) = sX r i ++ vM r.bars[i]! := by simp only [sX, mL vM h, List.append_assoc]
theorem Ca {r : Rec} {i : Nat} (h : i < r.feats.length) : vn r (i + 1) = vn r i ++ rH r.feats[i]! := by simp only [vn, mL rH h, List.append_assoc]
theorem zb {r : Rec} (h : r.fit) (i : Nat) (hi : i ≤ r.needs.length) : (gY r i).length ≤ 222400000 := by
 have a0 := zF h.nm h.v
 have a1 := oH qo 27400000 (fun x hx => zQ (h.n x hx)) i
 have b1 := Nat.mul_le_mul_right 27400000 (Nat.le_trans hi h.ns)
 simp only [gY, List.length_append]; omega
theorem zc {r : Rec} (h : r.fit) (i : Nat) (hi : i ≤ r.bars.length) : (sX r i).length ≤ 247600000 := by
 have a0 := zb h r.needs.length (Nat.le_refl _)
 have a1 := oH vM 3145800 (fun x hx => AH (h.b x hx)) i
 have b1 := Nat.mul_le_mul_right 3145800 (Nat.le_trans hi h.bs)
 simp only [sX, List.length_append]; omega
theorem DU {r : Rec} (h : r.fit) (i : Nat) (hi : i ≤ r.feats.length) : (vn r i).length ≤ 314800000 := by
 have a0 := zc h r.bars.length (Nat.le_refl _)
 have a1 := oH rH 8400000 (fun x hx => zy (h.f x hx)) i
 have b1 := Nat.mul_le_mul_right 8400000 (Nat.le_trans hi h.fs)
 simp only [vn, List.length_append]; omega
theorem vQ {r : Rec} (h : (cC r).1 = 0) : tG r := by
 unfold cC at h
 split at h
 ·cases h
 split at h
 ·cases h
 split at h
 ·cases h
 rename_i a b c
 split at h
 ·rename_i d; exact absurd h d
 rename_i d
 exact ⟨⟨by simpa using a, by simpa using b⟩, ⟨by omega, by omega⟩, BG (Classical.not_not.1 d)⟩
def oK (l : List aq) (x : aq) (i : Nat) : Int := match (l.drop i).findIdx? (fun t => decide (x = t)) with
 | some k => ((i + k : Nat) : Int)
 | none => -1
theorem C8 {l : List aq} {x : aq} {i : Nat} (h : i < l.length) (he : x = l[i]!) : oK l x i = (i : Nat) := by
 unfold oK
 rw [List.drop_eq_getElem_cons h, List.findIdx?_cons]
 have : x = l[i] := by simpa [h] using he
 simp [← this]
theorem C9 {l : List aq} {x : aq} {i : Nat} (h : i < l.length) (he : ¬ x = l[i]!) : oK l x i = oK l x (i + 1) := by
 unfold oK
 have : ¬ x = l[i] := by simpa [h] using he
 rw [List.drop_eq_getElem_cons h, List.findIdx?_cons]
 simp only [this, decide_false, Bool.false_eq_true, if_false]
 cases (l.drop (i + 1)).findIdx? (fun t => decide (x = t)) with
 | none => rfl
 | some k => simp only [Option.map_some]; congr 1; omega
theorem A6 {l : List aq} {x : aq} {i : Nat} (h : l.length ≤ i) : oK l x i = -1 := by
 unfold oK
 rw [List.drop_eq_nil_of_le h]; rfl
theorem A7 (l : List aq) (x : aq) : decide (0 ≤ oK l x 0) = decide (x ∈ l) := by
 unfold oK
 rw [List.drop_zero]
 cases h : l.findIdx? (fun t => decide (x = t)) with
 | none =>
  have := List.findIdx?_eq_none_iff.1 h
  have hn : x ∉ l := fun hm => by have := this x hm; simp at this
  simp [hn]
 | some k =>
  obtain ⟨hk, hx, _⟩ := List.findIdx?_eq_some_iff_getElem.1 h
  have hm : x ∈ l := by
   have : x = l[k] := by simpa using hx
   rw [this]; exact List.getElem_mem hk
  simp [hm]
structure Ld where
 ls : List aq
 at' : Nat
 deriving Inhabited, DecidableEq
def Ld.D (r : Ld) : D := .agg [.sl 1 (r.ls.map D.str), .int .i64 (r.at' : Nat)]
def Ld.rest (r : Ld) : List aq := r.ls.drop r.at'
def Ld.sm (r : Ld) : Prop := (r.at' ≤ r.ls.length ∧ r.ls.length ≤ 1048577) ∧ ∀ t ∈ r.ls, t.length ≤ 1048576
def Ld.to (r : Ld) (q : List aq) : Ld := ⟨r.ls, r.ls.length - q.length⟩
def gw (n : Int) (t : aq) : List aq := if n < 0 then ar t 32 else nP n.toNat (ar t 32)
theorem uv (n : Nat) (op : Bool) (t : aq) : gw (if op = true then (n : Int) else -1) t = cS n op t := by
 unfold gw cS
 cases op
 ·rfl
 ·have : ¬ (n : Int) < 0 := by omega
  simp [this]
def tf : Option (List aq × List aq) → D
 | none => .av
 | some (l, _) => .sl 1 (l.map D.str)
def Ld.after (r : Ld) (o : Option (List aq × List aq)) : Ld := match o with
 | none => r
 | some _ => ⟨r.ls, r.at' + 1⟩
theorem Ld.BY {r : Ld} (h : r.ls.length ≤ r.at') : r.rest = [] := List.drop_eq_nil_of_le h
theorem Ld.mU {r : Ld} (h : r.at' < r.ls.length) : r.rest = r.ls[r.at']! :: r.ls.drop (r.at' + 1) := by
 unfold Ld.rest; rw [List.drop_eq_getElem_cons h]; simp [h]
theorem Ao (n : Nat) (op : Bool) (t : aq) (h : op = true → 1 ≤ n) : 1 ≤ (cS n op t).length := by
 have hs : 1 ≤ (ar t 32).length := by
  exact fB 32 t []
 unfold cS
 split
 ·rename_i ho
  have := h ho
  unfold nP
  split
  ·exact hs
  ·simp
 ·exact hs
theorem wx {w : aq} {n : Nat} {op : Bool} {t : aq} (h : ((¬ (cS n op t)[0]! = w ∨ ((cS n op t).length : Int) < 1) ∨ ((0 : Int) < n ∧ ¬ ((cS n op t).length : Int) = n)) ∨ [] ∈ cS n op t) (h1 : 1 ≤ (cS n op t).length) : jg w n op t = none := by
 rw [jg, if_neg]
 rintro ⟨a, b, c⟩
 rcases h with ((h | h) | h) | h
 ·exact h a
 ·omega
 ·rcases b with b | b <;> omega
 ·exact c h
theorem tR {w : aq} {n : Nat} {op : Bool} {t : aq} (h : (((cS n op t)[0]! = w ∧ ¬ ((cS n op t).length : Int) < 1) ∧ (¬ (0 : Int) < n ∨ ((cS n op t).length : Int) = n)) ∧ ¬ [] ∈ cS n op t) : jg w n op t = some (cS n op t) := by
 rw [jg, if_pos ⟨h.1.1.1, by rcases h.1.2 with h | h <;> omega, h.2⟩]
def anyL (t : aq) : Option (List aq) := match jg jy 5 true t with
 | some l => if qi l = true then some l else none
 | none => none
def No (p : aq → Option (List aq)) (ls : List aq) : Prop := ∀ t r, ls = t :: r → p t = none
theorem dc {w : aq} {n : Nat} {op : Bool} {ls l r : List aq} (h : bC w n op ls = some (l, r)) : ∃ t, ls = t :: r ∧ jg w n op t = some l := by
 match ls, h with
 | [], h => cases h
 | t :: q, h =>
  simp only [bC] at h
  split at h
  ·rename_i l' hl
   simp only [Option.some.injEq, Prod.mk.injEq] at h
   obtain ⟨rfl, rfl⟩ := h
   exact ⟨t, rfl, hl⟩
  ·cases h
def Stop (s : Nat) (ls : List aq) : Prop := (s = 2 → No anyL ls ∧ No (jg j5 2 true) ls) ∧ (s = 2 ∨ s = 3 → No (jg dH 2 false) ls) ∧ (s = 5 → No (jg j5 2 true) ls)
def nu (m : List (Nat × bm)) (l : Nat) (t : List UInt8) : Prop := (∃ u, look m l = some (.bld none 0 u) ∧ t = []) ∨ (∃ l2 u, look m l = some (.bld (some l2) t.length u) ∧ look m l2 = some (.row t))
@[go_sem] def dn (m : List (Nat × bm)) (l : Nat) : List (Nat × bm) := match look m l with
 | some (.bld (some l2) _ _) => cg m l2
 | _ => m
@[go_sem] def lR (m : List (Nat × bm)) (l L : Nat) (t : List UInt8) : List (Nat × bm) := (L, .row t) :: cw (dn m l) l (.bld (some L) t.length true)
def TrW (as : D) (s : List UInt8) (ds : List D) (st : St) (K : D → St → Prop) : Prop := ∃ l t, ds = [.ptr l 2 0 0, as] ∧ nu st.m l t ∧ l < st.nx ∧ s ≠ [] ∧ t.length + s.length ≤ 1099511627776 ∧ K .any ⟨st.nx + 1, lR st.m l st.nx (t ++ s)⟩
def H9 (ds : List D) (st : St) (K : D → St → Prop) : Prop := ∃ s, TrW (.str s) s ds st K
def H8 (ds : List D) (st : St) (K : D → St → Prop) : Prop := ∃ c, TrW (.int .u8 c.toNat) [c] ds st K
def H7 (ds : List D) (st : St) (K : D → St → Prop) : Prop := ∃ l t, ds = [.ptr l 2 0 0] ∧ nu st.m l t ∧ t ≠ [] ∧ K (.str t) ⟨st.nx, cg (dn st.m l) l⟩
def EH (Γ : Ctx) : Prop := ∀ (ds : List D) (st : St) (K : D → St → Prop), H9 ds st K → Γ.tr 489 ds st K
def EL (Γ : Ctx) : Prop := ∀ (ds : List D) (st : St) (K : D → St → Prop), H8 ds st K → Γ.tr 664 ds st K
def EE (Γ : Ctx) : Prop := ∀ (ds : List D) (st : St) (K : D → St → Prop), H7 ds st K → Γ.tr 452 ds st K
theorem zI (b a : aq) (l : List aq) (h : a ≠ []) : bj b (a :: l) ≠ [] := by
 match l with
 | [] => exact h
 | c :: r =>
  rw [eu b a (c :: r) (by simp)]
  intro e
  have := List.append_eq_nil_iff.1 e
  exact h (List.append_eq_nil_iff.1 this.1).1
def uB (ws : List aq) (t : aq) : Prop := (bj [32] ws ≠ [] ∧ ws.length ≤ 1048600) ∧ (∀ w ∈ ws, w.length ≤ 2097200) ∧ t.length + (bj [32] ws).length + 1 ≤ 1099511627776
theorem uB.mk {a : aq} {l : List aq} {t : aq} (h1 : a ≠ []) (h2 : l.length ≤ 99) (h3 : ∀ w ∈ a :: l, w.length ≤ 2097200) (h4 : t.length ≤ 1000000000) : uB (a :: l) t := by
 have h5 := kt 32 2097200 (a :: l) h3
 have h6 : (a :: l).length ≤ 100 := by simp only [List.length_cons]; omega
 have h7 := Nat.mul_le_mul_right (2097200 + 1) h6
 exact ⟨⟨zI _ _ _ h1, by omega⟩, h3, by omega⟩
def EC (Γ : Ctx) : Prop := ∀ (ws : List aq) (t : aq) (l lw nx : Nat) (m : List (Nat × bm)) (K : D → St → Prop), nu m l t → look m lw = some (.buf 1 (ws.map D.str)) → l < nx → lw < nx → uB ws t →
 K (.tup []) ⟨nx + 1, lR (cg m lw) l nx (t ++ bR ws)⟩ → Γ.tr 450 [.ptr l 2 0 0, .own lw 1 0 ws.length] ⟨nx, m⟩ K
theorem pM {m : List (Nat × bm)} {l L : Nat} {t : List UInt8} (h : l ≠ L) : look (lR m l L t) l = some (.bld (some L) t.length true) ∧ look (lR m l L t) L = some (.row t) := by
 constructor
 ·simp only [lR, look, if_neg (fun e => h (Eq.symm e))]
  haveI : cd := { gd := fun _ => True, le := fun _ _ _ _ _ => trivial }
  rw [bt, if_pos rfl]
 ·simp only [lR, look, if_pos]
theorem CM {m : List (Nat × bm)} {l L : Nat} {t : List UInt8} (h : l ≠ L) : nu (lR m l L t) l t := .inr ⟨L, true, pM h⟩
end Go.Abs
section
namespace Go.Abs
theorem ah {p : Prop} (h : p := by exact rfl) : p := h
theorem HW {p : Prop} (h : p := by repeat (first | exact fE.nil | refine fE.un ?_ | refine fE.eq (by exact rfl) ?_)) : p := h
theorem eK {p : Prop} (h : p := by first | exact rfl | exact bP (fun _ => rfl) _) : p := h
theorem aX {p : Prop} (h : p := by repeat (first | exact fE.nil | refine fE.un ?_ | refine fE.eq (by exact rfl) ?_ | refine fE.nl (by exact rfl) (by exact rfl) ?_)) : p := h
theorem jv {p : Prop} (h : p := by repeat' first | exact trivial | exact rfl | refine And.intro ?_ ?_) : p := h
theorem vc {p : Prop} (h : p := by repeat' first | exact trivial | exact rfl | exact Nat.le_refl _ | refine And.intro ?_ ?_) : p := h
theorem bJ {p : Prop} (h : p := by repeat (first | exact aV.nil | refine aV.fR (by exact rfl) (by exact rfl) (by first | exact rfl | exact bP (fun _ => rfl) _) ?_ | refine aV.pH (by exact rfl) (by exact rfl) (by exact rfl) ?_ | refine aV.qj (by exact rfl) (by exact rfl) (by exact rfl) (by exact rfl) ?_)) : p := h
theorem b0 {p : Prop} [Decidable p] : (decide p = true) = p := decide_eq_true_eq
theorem b1 {p : Prop} [Decidable p] : decide p = false ↔ ¬ p := decide_eq_false_iff_not
theorem b2 (b : Bool) : ((!b) = true) = (b = false) := Bool.not_eq_true' b
theorem b3 (b : Bool) : ((!b) = false) = (b = true) := Bool.not_eq_false' b
theorem b4 (b : Bool) : (¬ (b = false)) = (b = true) := Bool.not_eq_false b
theorem b5 (a b : Bool) : ((a || b) = true) = (a = true ∨ b = true) := Bool.or_eq_true a b
end Go.Abs
namespace Go.Abs
theorem aB {a : aI} {d d2 : D} {e : Ex} {nx : Nat} {m : List (Nat × bm)} {env : List aN} (h : d2 = d) (he : e.home := by exact trivial) (h1 : n4 m env a.res := by exact vc) (h2 : Ch a env m := by exact jv) (h3 : FW a env m = d2 := by exact rfl) : eC a d e env ⟨nx, m⟩ := FG he h1 h2 (h3.trans h)
end Go.Abs
namespace Go.Abs
theorem ae {p q : Prop} (k : q) (h : q → p := by
 intro h
 first | with_reducible exact BQ.normal h | with_reducible exact BQ.ret h | with_reducible exact LQ.normal h | with_reducible exact LQ.out h | with_reducible exact LQ.ret h | with_reducible exact aw h | with_reducible exact Cf h | with_reducible exact yn h | with_reducible exact wp_ret h | with_reducible exact FR h | with_reducible exact Ap h | with_reducible exact wp_skip h | with_reducible exact ym h | exact r_mv h | exact HY h) : p := h k
@[reducible] def sF (env : List aN) : List (Nat × aN) → List aN
 | [] => env
 | (s, e) :: r => sF (env.set s e) r
section
variable {Γ : Ctx} {Q : Ex → List aN → St → Prop}
theorem ai {draw : Bool} {cm : List (Nat × Nat)} {b : AC} {nx nx' : Nat} {m : List (Nat × bm)} {rs env bF env' : List aN} (l : List (Nat × aN)) (h : bo Γ b Q env' ⟨nx', m⟩)
  (he : E9 env rs cm = sF env l := by exact rfl) (hs : sF env l = env' := by (try simp only [sF, List.set_cons_zero, List.set_cons_succ]); exact rfl) (hn : nx + rs.length = nx' := by simp only [List.length_cons, List.length_nil, Nat.reduceAdd]; exact rfl) : aG Γ draw [] bF rs nx m (fun vs st' => bo Γ b Q (er env vs cm) st') :=
 DI h (he.trans hs) hn
theorem bL {draw : Bool} {cm : List (Nat × Nat)} {nx nx' : Nat} {m : List (Nat × bm)} {rs env bF env' : List aN} (l : List (Nat × aN)) (h : Q .normal env' ⟨nx', m⟩)
  (he : E9 env rs cm = sF env l := by exact rfl) (hs : sF env l = env' := by (try simp only [sF, List.set_cons_zero, List.set_cons_succ]); exact rfl) (hn : nx + rs.length = nx' := by simp only [List.length_cons, List.length_nil, Nat.reduceAdd]; exact rfl) : aG Γ draw [] bF rs nx m (fun vs st' => Q .normal (er env vs cm) st') :=
 DJ h (he.trans hs) hn
end
theorem au : (∀ {p : Prop} [Decidable p], (decide p = true) = p) ∧ (∀ {p : Prop} [Decidable p], decide p = false ↔ ¬ p) ∧ (∀ b : Bool, ((!b) = true) = (b = false)) ∧ (∀ b : Bool, ((!b) = false) = (b = true)) ∧ (∀ b : Bool, (¬ (b = false)) = (b = true)) ∧ (∀ a b : Bool, ((a || b) = true) = (a = true ∨ b = true)) ∧ (∀ {a b : Bool}, (a || b) = false ↔ a = false ∧ b = false) ∧ (∀ a b : Bool, ((a && b) = true) = (a = true ∧ b = true)) ∧ (∀ {a b : Bool}, (a && b) = false ↔ a = false ∨ b = false) ∧ (∀ b : Bool, (¬ (b = true)) = (b = false)) ∧ (∀ b : Bool, (true && b) = b) ∧ ∀ b : Bool, (b && true) = b :=
 ⟨decide_eq_true_eq, decide_eq_false_iff_not, Bool.not_eq_true', Bool.not_eq_false', Bool.not_eq_false, Bool.or_eq_true, Bool.or_eq_false_iff, Bool.and_eq_true, Bool.and_eq_false_iff, Bool.not_eq_true, Bool.true_and, Bool.and_true⟩
end Go.Abs
namespace Go.Abs
abbrev s0 : Src := .s 0
abbrev s1 : Src := .s 1
abbrev s2 : Src := .s 2
abbrev s3 : Src := .s 3
abbrev s4 : Src := .s 4
abbrev s5 : Src := .s 5
abbrev s6 : Src := .s 6
abbrev s7 : Src := .s 7
abbrev s8 : Src := .s 8
abbrev s9 : Src := .s 9
abbrev kF : Src := .s 10
abbrev mV : Src := .s 11
abbrev jV : Src := .s 12
abbrev ri : Src := .s 13
abbrev vj : Src := .s 14
abbrev sE : Src := .s 15
abbrev y6 : Src := .s 16
abbrev wS : Src := .s 17
abbrev Ac : Src := .s 18
abbrev FH : Src := .s 19
abbrev Cm : Src := .s 20
abbrev s21 : Src := .s 21
abbrev s22 : Src := .s 22
abbrev s23 : Src := .s 23
abbrev F5 : Src := .s 24
abbrev F6 : Src := .s 25
abbrev H3 : Src := .s 26
abbrev s27 : Src := .s 27
abbrev s28 : Src := .s 28
abbrev s29 : Src := .s 29
abbrev Ep : Src := .s 30
abbrev s31 : Src := .s 31
abbrev s32 : Src := .s 32
abbrev s33 : Src := .s 33
abbrev s34 : Src := .s 34
abbrev s35 : Src := .s 35
abbrev s36 : Src := .s 36
abbrev s37 : Src := .s 37
abbrev s38 : Src := .s 38
abbrev l0 : Src := .l 0
abbrev l1 : Src := .l 1
abbrev l2 : Src := .l 2
abbrev l3 : Src := .l 3
abbrev l4 : Src := .l 4
abbrev l5 : Src := .l 5
abbrev l6 : Src := .l 6
abbrev l7 : Src := .l 7
abbrev l8 : Src := .l 8
abbrev l9 : Src := .l 9
abbrev l10 : Src := .l 10
abbrev kl : Src := .l 11
abbrev lJ : Src := .l 12
abbrev nB : Src := .l 13
abbrev nW : Src := .l 14
abbrev oN : Src := .l 15
abbrev qm : Src := .l 16
abbrev rT : Src := .l 17
abbrev rU : Src := .l 18
abbrev tK : Src := .l 19
abbrev vz : Src := .l 20
abbrev wi : Src := .l 21
abbrev xf : Src := .l 22
abbrev yI : Src := .l 23
abbrev zK : Src := .l 24
abbrev At : Src := .l 25
abbrev Di : Src := .l 26
abbrev Fi : Src := .l 27
abbrev F1 : Src := .l 28
abbrev F2 : Src := .l 29
abbrev HN : Src := .l 30
abbrev HO : Src := .l 31
abbrev HP : Src := .l 32
abbrev l33 : Src := .l 33
abbrev l34 : Src := .l 34
abbrev l35 : Src := .l 35
abbrev l36 : Src := .l 36
abbrev l37 : Src := .l 37
abbrev gm (x : Src) : GI := ⟨.mv x, none⟩
abbrev gn (x : aA) : GI := ⟨x, none⟩
abbrev i6 (n : Int) : Src := .c (.int .i64 n)
abbrev cb (b : Bool) : Src := .c (.bool b)
abbrev cs (s : List UInt8) : Src := .c (.str s)
abbrev gd (x : Src) : GI := ⟨.ld 1 false x, none⟩
abbrev gk (n : Nat) (b : Bool) (x : Src) : GI := ⟨.ld n b x, none⟩
abbrev gf (n : Nat) (x : Src) : GI := ⟨.fa n x, none⟩
abbrev gl (x : Src) : GI := ⟨.len x, none⟩
abbrev ga (n : Nat) (x y : Src) : GI := ⟨.ia n x y, none⟩
abbrev ge (x : Src) (n : Nat) : GI := ⟨.ext x n, none⟩
abbrev gb (n : Nat) (x : Src) : GI := ⟨.box n x, none⟩
abbrev gc (x : Src) : GI := ⟨.nilck x, none⟩
abbrev gt (n : Nat) (x y : Src) : GI := ⟨.st n x y, none⟩
abbrev gx (n : Nat) (x : List Src) (y : List (List Sh)) : GI := ⟨.call n x y, none⟩
abbrev rg (x : List GI) (y : List (Nat × Nat)) : AC := .reg false x y
abbrev rt (x : List GI) (y : List (Nat × Nat)) : AC := .reg true x y
abbrev bQ (x y : Src) : aA := .bin .lss x y
abbrev bA (x y : Src) : aA := .bin .eql x y
abbrev bh (x y : Src) : aA := .bin .add x y
abbrev fN (x y : Src) : aA := .bin .gtr x y
abbrev cN (x y : Src) : aA := .bin .neq x y
abbrev Ec (x y : Src) : aA := .bin .leq x y
abbrev lO (x y : Src) : aA := .bin .geq x y
abbrev lP (x y : Src) : aA := .bin .sub x y
end Go.Abs
end
section
namespace Go.Abs
open Go
def gh : aI := { np := 2, ns := 7, res := [⟨2, none⟩], rsh := [[.a]], body := (.seq (rg [gm (cb false)] [(2, 0)]) (.seq (.seq (rg [gm s0, gl l0, gm s1, gl l2, gn (cN l1 l3)] [(3, 4)]) (.cond s3 (.seq (rg [gm (cb false)] [(2, 0)]) .ret) .skip)) (.seq (.seq (rg [gm (i6 0)] [(4, 0)]) (.block 0 (.loop (.seq (.seq (rg [gm s4, gm s0, gl l1, gn (bQ l0 l2)] [(5, 3)]) (.cond s5 .skip (.exit 0))) (.seq (.block 1 (.seq (rt [gm s0, gm s4, ga 1 l0 l1, gd l2, gm s1, gm s4, ga 1 l4 l5, gd l6, gn (cN l3 l7)] [(6, 8)]) (.cond s6 (.seq (rg [gm (cb false)] [(2, 0)]) .ret) .skip))) (rg [gm s4, gn (bh l0 (i6 1)), gm l1] [(4, 2)])))))) (.seq (rg [gm (cb true)] [(2, 0)]) .ret)))) }
theorem w226 {Γ : Ctx} (hm : (Γ.at 0).bN)  (a : List aq) (b : List aq)   : bo (Γ.at 0) gh.body (eC gh (.bool (decide (a = b))) : Ex → List aN → St → Prop) (bF gh [.sl 1 (a.map D.str), .sl 1 (b.map D.str)]) ⟨0, []⟩ := by
 show bo _ _ _ [⟨true, .sl 1 (a.map D.str)⟩, ⟨true, .sl 1 (b.map D.str)⟩, .un, .un, .un, .un, .un] ⟨0, []⟩
 refine aw ?_
 refine ae ?_
 refine ai [(2, ⟨_, .bool _⟩)] ?_
 iterate 3 refine ae ?_
 refine aC fun u0 => ?_; specialize u0 rfl rfl
 refine ae ?_
 refine aC fun u1 => ?_; specialize u1 rfl rfl
 refine bU ?_
 refine ai [(3, ⟨_, .bool _⟩)] ?_
 refine ak (fun hc0 => ?_) (fun hc0 => ?_)
 ·try simp only [au] at hc0
  iterate 3 refine ae ?_
  refine ai [(2, ⟨_, .bool _⟩)] ?_
  refine ae ?_
  refine aB (congrArg D.bool ?_)
  symm; rw [decide_eq_false_iff_not]; rintro rfl; exact hc0 rfl
 ·try simp only [au] at hc0
  iterate 4 refine ae ?_
  refine ai [(4, ⟨_, .int _ _⟩)] ?_
  have hab : a.length = b.length := by omega
  have hb := eA hab
  refine bz hm (ι := Nat) (fun i => [⟨true, .sl 1 (a.map D.str)⟩, ⟨true, .sl 1 (b.map D.str)⟩, .un, .un, ⟨true, .int .i64 (i : Nat)⟩, .un, .un]) (fun i => []) 7 (fun i => i ≤ a.length ∧ decide (a = b) = bO (fun i => decide (a[i]! = b[i]!)) i a.length) (fun i => a.length - i) 0 ⟨by omega, hb⟩ (az.to [] ah ah aX bJ) ?_
  rintro i ⟨hi, hr⟩
  iterate 4 refine ae ?_
  refine aC fun u2 => ?_; specialize u2 rfl rfl
  refine aW ?_
  refine ai [(5, ⟨_, .bool _⟩)] ?_
  refine ak (fun hc1 => ?_) (fun hc1 => ?_)
  ·try simp only [au] at hc1
   refine ae ?_
   refine ax ?_ hm
   iterate 3 refine ae ?_
   first | refine aP _ ?_ | refine br ?_
   first | refine aS (v := (.str _)) ?_ | refine bH (v := (.str _)) ?_
   iterate 2 refine ae ?_
   first | refine aP _ ?_ | refine br ?_
   first | refine aS (v := (.str _)) ?_ | refine bH (v := (.str _)) ?_
   refine cn ?_
   refine ai [(6, ⟨_, .bool _⟩)] ?_
   refine wp_cond (fun hc2 => ?_) (fun hc2 => ?_)
   ·simp only [Bool.not_eq_true', decide_eq_false_iff_not] at hc2
    iterate 2 refine ae ?_
    refine ai [(2, ⟨_, .bool _⟩)] ?_
    iterate 3 refine ae ?_
    refine aB (congrArg D.bool ?_)
    rw [hr, aD (by omega), decide_eq_false hc2]; rfl
   ·simp only [Bool.not_eq_false', decide_eq_true_eq] at hc2
    iterate 4 refine ae ?_
    refine aF ?_
    refine ae ?_
    refine bL [(4, ⟨_, .int _ _⟩)] ?_
    refine ae ?_
    exact ⟨i + 1, ⟨by omega, by rw [hr, aD (by omega), decide_eq_true hc2]; rfl⟩, by omega, (az.to [] ah ah aX bJ)⟩
  ·try simp only [au] at hc1
   iterate 4 refine ae ?_
   refine ai [(2, ⟨_, .bool _⟩)] ?_
   refine ae ?_
   refine aB (congrArg D.bool ?_)
   rw [hr, bD (by omega)]
def Ez (Γ : Ctx) : Prop := ∀ (a : List aq) (b : List aq), Γ.pre 226 [.sl 1 (a.map D.str), .sl 1 (b.map D.str)] ∧ Γ.val 226 [.sl 1 (a.map D.str), .sl 1 (b.map D.str)] = .bool (decide (a = b))
def gS : aI := { np := 1, ns := 5, res := [⟨1, none⟩], rsh := [[.a]], body := (.seq (rg [gm (cb false)] [(1, 0)]) (.seq (.seq (rg [gm (i6 1)] [(2, 0)]) (.block 0 (.loop (.seq (.seq (rg [gm s2, gm s0, gl l1, gn (bQ l0 l2)] [(3, 3)]) (.cond s3 .skip (.exit 0))) (.seq (.block 1 (.seq (rt [gm s0, gm s2, gn (lP l1 (i6 1)), ga 1 l0 l2, gd l3, gm s0, gm s2, ga 1 l5 l6, gd l7, gn (lO l4 l8)] [(4, 9)]) (.cond s4 (.seq (rg [gm (cb false)] [(1, 0)]) .ret) .skip))) (rg [gm s2, gn (bh l0 (i6 1)), gm l1] [(2, 2)])))))) (.seq (rg [gm (cb true)] [(1, 0)]) .ret))) }
theorem w447 {Γ : Ctx} (hm : (Γ.at 0).bN)  (l : List aq)   : bo (Γ.at 0) gS.body (eC gS (.bool (rising l)) : Ex → List aN → St → Prop) (bF gS [.sl 1 (l.map D.str)]) ⟨0, []⟩ := by
 show bo _ _ _ [⟨true, .sl 1 (l.map D.str)⟩, .un, .un, .un, .un] ⟨0, []⟩
 refine aw ?_
 refine ae ?_
 refine ai [(1, ⟨_, .bool _⟩)] ?_
 iterate 3 refine ae ?_
 refine ai [(2, ⟨_, .int _ _⟩)] ?_
 refine bz hm (ι := Nat) (fun i => [⟨true, .sl 1 (l.map D.str)⟩, .un, ⟨true, .int .i64 (i : Nat)⟩, .un, .un]) (fun i => []) 2 (fun i => 1 ≤ i ∧ (i ≤ l.length ∨ i = 1) ∧ rising l = bO (fun i => Op.bytesLess l[i - 1]! l[i]!) i l.length) (fun i => l.length - i) 1 ⟨by omega, by omega, rfl⟩ (az.to [] ah ah aX bJ) ?_
 rintro i ⟨h1, hi, hr⟩
 iterate 4 refine ae ?_
 refine aC fun u0 => ?_; specialize u0 rfl rfl
 refine aW ?_
 refine ai [(3, ⟨_, .bool _⟩)] ?_
 refine ak (fun hc0 => ?_) (fun hc0 => ?_)
 ·try simp only [au] at hc0
  refine ae ?_
  refine ax ?_ hm
  iterate 3 refine ae ?_
  refine cA ?_
  refine aP (i - 1) ?_
  first | refine aS (v := (.str _)) ?_ | refine bH (v := (.str _)) ?_
  iterate 2 refine ae ?_
  first | refine aP _ ?_ | refine br ?_
  first | refine aS (v := (.str _)) ?_ | refine bH (v := (.str _)) ?_
  refine xY ?_
  refine ai [(4, ⟨_, .bool _⟩)] ?_
  refine wp_cond (fun hc1 => ?_) (fun hc1 => ?_)
  ·simp only [Bool.not_eq_true'] at hc1
   iterate 2 refine ae ?_
   refine ai [(1, ⟨_, .bool _⟩)] ?_
   iterate 3 refine ae ?_
   refine aB (congrArg D.bool ?_)
   rw [hr, aD (by omega), hc1]; rfl
  ·simp only [Bool.not_eq_false'] at hc1
   iterate 4 refine ae ?_
   refine aF ?_
   refine ae ?_
   refine bL [(2, ⟨_, .int _ _⟩)] ?_
   refine ae ?_
   exact ⟨i + 1, ⟨by omega, by omega, by rw [hr, aD (by omega), hc1]; rfl⟩, by omega, (az.to [] ah ah aX bJ)⟩
 ·try simp only [au] at hc0
  iterate 4 refine ae ?_
  refine ai [(1, ⟨_, .bool _⟩)] ?_
  refine ae ?_
  refine aB (congrArg D.bool ?_)
  rw [hr, bD (by omega)]
def GB (Γ : Ctx) : Prop := ∀ (l : List aq), Γ.pre 447 [.sl 1 (l.map D.str)] ∧ Γ.val 447 [.sl 1 (l.map D.str)] = .bool (rising l)
end Go.Abs
end
section
namespace Go.Abs
open Go
def kW : aI := { np := 1, ns := 8, res := [⟨1, none⟩], rsh := [[.a]], body := (.seq (rg [gm (cb false)] [(1, 0)]) (.seq (.seq (rg [gm s0, gn (bA l0 (cs [])), gm l1, ⟨.mv s0, some (2, false)⟩, ⟨.lenS l3, some (2, false)⟩, ⟨.bin .gtr l4 (i6 12), some (2, false)⟩, gn (.pick l2 (cb true) l5)] [(2, 6)]) (.cond s2 (.seq (rg [gm (cb false)] [(1, 0)]) .ret) .skip)) (.seq (.seq (rg [gm s0, gn (.rng l0)] [(3, 1)]) (.block 0 (.loop (.seq (rg [gn (.sW s3), ge l0 0] [(5, 0), (4, 1)]) (.seq (.cond s4 .skip (.exit 0)) (.block 1 (.seq (rg [ge s5 2, gm l0] [(6, 1)]) (.block 2 (.seq (.seq (rg [gm s6, gn (lO l0 (.c (.int .i32 97))), gm l1, ⟨.mv s6, some (2, true)⟩, ⟨.bin .leq l3 (.c (.int .i32 122)), some (2, true)⟩, gn (.pick l2 l4 (cb false)), gm l5] [(7, 6)]) (.cond s7 .skip (.seq (rg [gm s6, gn (lO l0 (.c (.int .i32 48))), gm l1, ⟨.mv s6, some (2, true)⟩, ⟨.bin .leq l3 (.c (.int .i32 57)), some (2, true)⟩, gn (.pick l2 l4 (cb false)), gm l5] [(7, 6)]) (.cond s7 .skip (rg [gm s6, gn (bA l0 (.c (.int .i32 95))), gm l1] [(7, 2)]))))) (.cond s7 .skip (.seq (rg [gm (cb false)] [(1, 0)]) .ret))))))))))) (.seq (rg [gm (cb true)] [(1, 0)]) .ret)))) }
theorem w349 {Γ : Ctx} (hm : (Γ.at 0).bN)  (s : aq)   : bo (Γ.at 0) kW.body (eC kW (.bool (bZ s)) : Ex → List aN → St → Prop) (bF kW [.str s]) ⟨0, []⟩ := by
 show bo _ _ _ [⟨true, .str s⟩, .un, .un, .un, .un, .un, .un, .un] ⟨0, []⟩
 refine aw ?_
 refine ae ?_
 refine ai [(1, ⟨_, .bool _⟩)] ?_
 iterate 3 refine ae ?_
 refine cH ?_
 iterate 2 refine ae ?_
 refine cv fun _ => ?_
 refine bE ?_
 refine bY ?_
 refine ai [(2, ⟨_, .bool _⟩)] ?_
 refine ak (fun hc0 => ?_) (fun hc0 => ?_)
 ·try simp only [au] at hc0
  iterate 3 refine ae ?_
  refine ai [(1, ⟨_, .bool _⟩)] ?_
  refine ae ?_
  refine aB (congrArg D.bool ?_)
  symm; simp only [bZ, Bool.and_eq_false_iff, decide_eq_false_iff_not]; rcases hc0 with h | h
  ·subst h; exact Or.inl (Or.inl (by simp))
  ·exact Or.inl (by omega)
 ·try simp only [au] at hc0
  iterate 4 refine ae ?_
  refine yT ?_
  refine ai [(3, ⟨_, _⟩)] ?_
  have hP : bZ s = bO (fun i => uq (at8 s i)) 0 s.length := by
   have := List.length_pos_iff.2 hc0.1
   simp only [bZ]; rw [decide_eq_true (by omega), decide_eq_true (by omega)]; rfl
  refine bz hm (ι := Nat) (fun i => [⟨true, .str s⟩, .un, .un, ⟨true, .it 9⟩, .un, .un, .un, .un]) (fun i => [(9, .iter s i)]) 10 (fun i => i ≤ s.length ∧ bZ s = bO (fun i => uq (at8 s i)) i s.length) (fun i => s.length - i) 0 ⟨by omega, hP⟩ (az.to [(9, 9)] ah ah aX bJ) ?_
  rintro i ⟨hi, hr⟩
  refine ae ?_
  by_cases hnx : i < s.length
  ·obtain ⟨c, w, hdec, hw, hcw⟩ := oA s i hnx
   refine vi c w (hp := hnx) (hc := hdec) ?_
   refine bg (.bool _) ?_
   refine ai [(4, ⟨_, .bool _⟩), (5, ⟨_, _⟩)] ?_
   refine ak (t := true) (fun _ => ?_) (fun h => by cases h)
   refine ae ?_
   refine cW ?_ hm
   refine ae ?_
   refine bg (.int _ _) ?_
   refine ae ?_
   refine ai [(6, ⟨_, .int _ _⟩)] ?_
   refine cW ?_ hm
   iterate 3 refine ae ?_
   refine iv ?_
   iterate 2 refine ae ?_
   refine jj ?_
   refine bK ?_
   refine ae ?_
   refine ai [(7, ⟨_, .bool _⟩)] ?_
   refine ak (fun hc2 => ?_) (fun hc2 => ?_)
   ·try simp only [au] at hc2
    refine ae ?_
    refine wp_cond (fun hc4 => ?_) (fun hc4 => ?_)
    ·try simp only [au] at hc4
     refine ae ?_
     refine fK.normal ?_
     refine fK.normal ?_
     refine ae ?_
     obtain ⟨rfl, hat, -⟩ : w = 1 ∧ (c : Int) = at8 s i ∧ c < 128 := by
      rcases hcw with h | h
      ·exact h
      ·omega
     have hz : uq (at8 s i) = true := by
      simp only [uq, gz, bc, Bool.or_eq_true, Bool.and_eq_true, decide_eq_true_eq]; omega
     exact ⟨i + 1, ⟨by omega, by rw [hr, aD hnx, hz]; rfl⟩, by omega, (az.to [(9, 9)] ah ah aX bJ)⟩
    ·try simp only [au] at hc4
     iterate 2 refine ae ?_
     refine ai [(1, ⟨_, .bool _⟩)] ?_
     refine ae ?_
     refine fK.ret ?_
     refine fK.ret ?_
     refine ae ?_
     refine aB (congrArg D.bool ?_)
     first
      | (exfalso; omega)
      | (rw [hr, bD (by omega)]; done)
      | (
       have hz : uq (at8 s i) = false := by
        rcases hcw with ⟨_, h, _⟩ | ⟨_, h⟩ <;> (simp only [uq, gz, bc, Bool.or_eq_false_iff, Bool.and_eq_false_iff, decide_eq_false_iff_not]; omega)
       rw [hr, aD hnx, hz]; rfl)
   ·try simp only [au] at hc2
    iterate 3 refine ae ?_
    refine iv ?_
    iterate 2 refine ae ?_
    refine jj ?_
    refine bK ?_
    refine ae ?_
    refine ai [(7, ⟨_, .bool _⟩)] ?_
    refine ak (fun hc3 => ?_) (fun hc3 => ?_)
    ·try simp only [au] at hc3
     refine ae ?_
     refine wp_cond (fun hc4 => ?_) (fun hc4 => ?_)
     ·try simp only [au] at hc4
      refine ae ?_
      refine fK.normal ?_
      refine fK.normal ?_
      refine ae ?_
      obtain ⟨rfl, hat, -⟩ : w = 1 ∧ (c : Int) = at8 s i ∧ c < 128 := by
       rcases hcw with h | h
       ·exact h
       ·omega
      have hz : uq (at8 s i) = true := by
       simp only [uq, gz, bc, Bool.or_eq_true, Bool.and_eq_true, decide_eq_true_eq]; omega
      exact ⟨i + 1, ⟨by omega, by rw [hr, aD hnx, hz]; rfl⟩, by omega, (az.to [(9, 9)] ah ah aX bJ)⟩
     ·try simp only [au] at hc4
      iterate 2 refine ae ?_
      refine ai [(1, ⟨_, .bool _⟩)] ?_
      refine ae ?_
      refine fK.ret ?_
      refine fK.ret ?_
      refine ae ?_
      refine aB (congrArg D.bool ?_)
      first
       | (exfalso; omega)
       | (rw [hr, bD (by omega)]; done)
       | (
        have hz : uq (at8 s i) = false := by
         rcases hcw with ⟨_, h, _⟩ | ⟨_, h⟩ <;> (simp only [uq, gz, bc, Bool.or_eq_false_iff, Bool.and_eq_false_iff, decide_eq_false_iff_not]; omega)
        rw [hr, aD hnx, hz]; rfl)
    ·try simp only [au] at hc3
     iterate 2 refine ae ?_
     refine aQ ?_
     refine ae ?_
     refine ai [(7, ⟨_, .bool _⟩)] ?_
     refine wp_cond (fun hc4 => ?_) (fun hc4 => ?_)
     ·try simp only [au] at hc4
      refine ae ?_
      refine fK.normal ?_
      refine fK.normal ?_
      refine ae ?_
      obtain ⟨rfl, hat, -⟩ : w = 1 ∧ (c : Int) = at8 s i ∧ c < 128 := by
       rcases hcw with h | h
       ·exact h
       ·omega
      have hz : uq (at8 s i) = true := by
       simp only [uq, gz, bc, Bool.or_eq_true, Bool.and_eq_true, decide_eq_true_eq]; omega
      exact ⟨i + 1, ⟨by omega, by rw [hr, aD hnx, hz]; rfl⟩, by omega, (az.to [(9, 9)] ah ah aX bJ)⟩
     ·try simp only [au] at hc4
      iterate 2 refine ae ?_
      refine ai [(1, ⟨_, .bool _⟩)] ?_
      refine ae ?_
      refine fK.ret ?_
      refine fK.ret ?_
      refine ae ?_
      refine aB (congrArg D.bool ?_)
      first
       | (exfalso; omega)
       | (rw [hr, bD (by omega)]; done)
       | (
        have hz : uq (at8 s i) = false := by
         rcases hcw with ⟨_, h, _⟩ | ⟨_, h⟩ <;> (simp only [uq, gz, bc, Bool.or_eq_false_iff, Bool.and_eq_false_iff, decide_eq_false_iff_not]; omega)
        rw [hr, aD hnx, hz]; rfl)
  ·refine vg (hp := hnx) ?_
   refine bg (.bool _) ?_
   refine ai [(4, ⟨_, .bool _⟩), (5, ⟨_, _⟩)] ?_
   refine ak (t := false) (fun h => by cases h) (fun _ => ?_)
   iterate 4 refine ae ?_
   refine ai [(1, ⟨_, .bool _⟩)] ?_
   refine ae ?_
   refine aB (congrArg D.bool ?_)
   first
    | (exfalso; omega)
    | (rw [hr, bD (by omega)]; done)
    | (
     have hz : uq (at8 s i) = false := by
      rcases hcw with ⟨_, h, _⟩ | ⟨_, h⟩ <;> (simp only [uq, gz, bc, Bool.or_eq_false_iff, Bool.and_eq_false_iff, decide_eq_false_iff_not]; omega)
     rw [hr, aD hnx, hz]; rfl)
def xh (Γ : Ctx) : Prop := ∀ (s : aq), Γ.pre 349 [.str s] ∧ Γ.val 349 [.str s] = .bool (bZ s)
def kV : aI := { np := 1, ns := 13, res := [⟨1, none⟩], rsh := [[.a]], body := (.seq (rg [gm (cb false)] [(1, 0)]) (.seq (.seq (rg [gm s0, gn (bA l0 (cs [])), gm l1, ⟨.mv s0, some (2, false)⟩, ⟨.lenS l3, some (2, false)⟩, ⟨.bin .gtr l4 (i6 16), some (2, false)⟩, gn (.pick l2 (cb true) l5)] [(2, 6)]) (.cond s2 (.seq (rg [gm (cb false)] [(1, 0)]) .ret) .skip)) (.seq (.seq (rg [gm s0, gn (.rng l0)] [(3, 1)]) (.block 0 (.loop (.seq (rg [gn (.sW s3), ge l0 0] [(5, 0), (4, 1)]) (.seq (.cond s4 .skip (.exit 0)) (.block 1 (.seq (rg [ge s5 1, ge s5 2, gm l0, gm l1] [(9, 2), (6, 3)]) (.block 2 (.seq (rg [gm s6, gn (lO l0 (.c (.int .i32 97))), gm l1, ⟨.mv s6, some (2, true)⟩, ⟨.bin .leq l3 (.c (.int .i32 122)), some (2, true)⟩, gn (.pick l2 l4 (cb false)), gm l5] [(7, 6)]) (.cond s7 .skip (.seq (rg [gm s6, gn (lO l0 (.c (.int .i32 48))), gm l1, ⟨.mv s6, some (2, true)⟩, ⟨.bin .leq l3 (.c (.int .i32 57)), some (2, true)⟩, gn (.pick l2 l4 (cb false)), gm l5] [(8, 6)]) (.cond s8 (.seq (rg [gm s9, gn (bA l0 (i6 0))] [(10, 1)]) (.cond kF (.seq (rg [gm (cb false)] [(1, 0)]) .ret) .skip)) (.seq (rg [gm s6, gn (bA l0 (.c (.int .i32 45))), gm l1] [(11, 2)]) (.cond mV (.seq (rg [gm s9, gn (bA l0 (i6 0)), gm l1, ⟨.mv s9, some (2, false)⟩, ⟨.mv s0, some (2, false)⟩, ⟨.lenS l4, some (2, false)⟩, ⟨.bin .sub l5 (i6 1), some (2, false)⟩, ⟨.bin .eql l3 l6, some (2, false)⟩, gn (.pick l2 (cb true) l7), gm l8, ⟨.mv s0, some (9, false)⟩, ⟨.mv s9, some (9, false)⟩, ⟨.bin .sub kl (i6 1), some (9, false)⟩, ⟨.ixS l10 lJ, some (9, false)⟩, ⟨.bin .eql nB (.c (.int .u8 45)), some (9, false)⟩, gn (.pick l9 (cb true) nW)] [(12, 15)]) (.cond jV (.seq (rg [gm (cb false)] [(1, 0)]) .ret) .skip)) (.seq (rg [gm (cb false)] [(1, 0)]) .ret))))))))))))))) (.seq (rg [gm (cb true)] [(1, 0)]) .ret)))) }
theorem w208 {Γ : Ctx} (hm : (Γ.at 0).bN)  (s : aq)   : bo (Γ.at 0) kV.body (eC kV (.bool (eW s)) : Ex → List aN → St → Prop) (bF kV [.str s]) ⟨0, []⟩ := by
 show bo _ _ _ [⟨true, .str s⟩, .un, .un, .un, .un, .un, .un, .un, .un, .un, .un, .un, .un] ⟨0, []⟩
 refine aw ?_
 refine ae ?_
 refine ai [(1, ⟨_, .bool _⟩)] ?_
 iterate 3 refine ae ?_
 refine cH ?_
 iterate 2 refine ae ?_
 refine cv fun _ => ?_
 refine bE ?_
 refine bY ?_
 refine ai [(2, ⟨_, .bool _⟩)] ?_
 refine ak (fun hc0 => ?_) (fun hc0 => ?_)
 ·try simp only [au] at hc0
  iterate 3 refine ae ?_
  refine ai [(1, ⟨_, .bool _⟩)] ?_
  refine ae ?_
  refine aB (congrArg D.bool ?_)
  symm; simp only [eW]; rcases hc0 with h | h
  ·subst h; simp
  ·rw [decide_eq_false (by omega : ¬ s.length ≤ 16)]; simp
 ·try simp only [au] at hc0
  iterate 4 refine ae ?_
  refine yT ?_
  refine ai [(3, ⟨_, _⟩)] ?_
  have h0 := List.length_pos_iff.2 hc0.1
  have hP := Dp s (by omega) (by omega)
  refine bz hm (ι := Nat) (fun i => [⟨true, .str s⟩, .un, .un, ⟨true, .it 9⟩, .un, .un, .un, .un, .un, .un, .un, .un, .un]) (fun i => [(9, .iter s i)]) 10 (fun i => i ≤ s.length ∧ eW s = bO (kf s) i s.length) (fun i => s.length - i) 0 ⟨by omega, hP⟩ (az.to [(9, 9)] ah ah aX bJ) ?_
  rintro i ⟨hi, hr⟩
  refine ae ?_
  by_cases hnx : i < s.length
  ·obtain ⟨c, w, hdec, hw, hcw⟩ := oA s i hnx
   refine vi c w (hp := hnx) (hc := hdec) ?_
   refine bg (.bool _) ?_
   refine ai [(4, ⟨_, .bool _⟩), (5, ⟨_, _⟩)] ?_
   refine ak (t := true) (fun _ => ?_) (fun h => by cases h)
   refine ae ?_
   refine cW ?_ hm
   refine ae ?_
   refine bg (.int _ _) ?_
   refine bg (.int _ _) ?_
   iterate 2 refine ae ?_
   refine ai [(6, ⟨_, .int _ _⟩), (9, ⟨_, .int _ _⟩)] ?_
   refine cW ?_ hm
   iterate 2 refine ae ?_
   refine iv ?_
   iterate 2 refine ae ?_
   refine jj ?_
   refine bK ?_
   refine ae ?_
   refine ai [(7, ⟨_, .bool _⟩)] ?_
   refine wp_cond (fun hc2 => ?_) (fun hc2 => ?_)
   ·try simp only [au] at hc2
    refine ae ?_
    refine fK.normal ?_
    refine fK.normal ?_
    refine ae ?_
    obtain ⟨rfl, hat, -⟩ : w = 1 ∧ (c : Int) = at8 s i ∧ c < 128 := by
     rcases hcw with h | h
     ·exact h
     ·omega
    have hz : kf s i = true := by
     simp only [kf, gz, bc, Bool.or_eq_true, Bool.and_eq_true, Bool.not_eq_true', decide_eq_true_eq, decide_eq_false_iff_not]; omega
    exact ⟨i + 1, ⟨by omega, by rw [hr, aD hnx, hz]; rfl⟩, by omega, (az.to [(9, 9)] ah ah aX bJ)⟩
   ·try simp only [au] at hc2
    iterate 2 refine ae ?_
    refine iv ?_
    iterate 2 refine ae ?_
    refine jj ?_
    refine bK ?_
    refine ae ?_
    refine ai [(8, ⟨_, .bool _⟩)] ?_
    refine wp_cond (fun hc3 => ?_) (fun hc3 => ?_)
    ·try simp only [au] at hc3
     iterate 2 refine ae ?_
     refine aQ ?_
     refine ai [(10, ⟨_, .bool _⟩)] ?_
     refine wp_cond (fun hc4 => ?_) (fun hc4 => ?_)
     ·try simp only [au] at hc4
      iterate 2 refine ae ?_
      refine ai [(1, ⟨_, .bool _⟩)] ?_
      refine ae ?_
      refine fK.ret ?_
      refine fK.ret ?_
      refine ae ?_
      refine aB (congrArg D.bool ?_)
      first
       | (exfalso; omega)
       | (rw [hr, bD (by omega)]; done)
       | (have hz : kf s i = false := by
           rcases hcw with ⟨_, h, _⟩ | ⟨_, h⟩ <;> (simp only [kf, gz, bc, Bool.or_eq_false_iff, Bool.and_eq_false_iff, Bool.not_eq_false', decide_eq_true_eq, decide_eq_false_iff_not]; omega)
          rw [hr, aD hnx, hz]; rfl)
     ·try simp only [au] at hc4
      refine ae ?_
      refine fK.normal ?_
      refine fK.normal ?_
      refine ae ?_
      obtain ⟨rfl, hat, -⟩ : w = 1 ∧ (c : Int) = at8 s i ∧ c < 128 := by
       rcases hcw with h | h
       ·exact h
       ·omega
      have hz : kf s i = true := by
       simp only [kf, gz, bc, Bool.or_eq_true, Bool.and_eq_true, Bool.not_eq_true', decide_eq_true_eq, decide_eq_false_iff_not]; omega
      exact ⟨i + 1, ⟨by omega, by rw [hr, aD hnx, hz]; rfl⟩, by omega, (az.to [(9, 9)] ah ah aX bJ)⟩
    ·try simp only [au] at hc3
     iterate 2 refine ae ?_
     refine aQ ?_
     refine ae ?_
     refine ai [(11, ⟨_, .bool _⟩)] ?_
     refine wp_cond (fun hc5 => ?_) (fun hc5 => ?_)
     ·try simp only [au] at hc5
      iterate 2 refine ae ?_
      refine aQ ?_
      iterate 3 refine ae ?_
      refine cv fun _ => ?_
      refine cA ?_
      refine aQ ?_
      refine bY ?_
      iterate 3 refine ae ?_
      refine cA ?_
      refine sw (i - 1) ?_
      refine aQ ?_
      refine bY ?_
      refine ai [(12, ⟨_, .bool _⟩)] ?_
      refine wp_cond (fun hc6 => ?_) (fun hc6 => ?_)
      ·try simp only [au] at hc6
       iterate 2 refine ae ?_
       refine ai [(1, ⟨_, .bool _⟩)] ?_
       refine ae ?_
       refine fK.ret ?_
       refine fK.ret ?_
       refine ae ?_
       refine aB (congrArg D.bool ?_)
       first
        | (exfalso; omega)
        | (rw [hr, bD (by omega)]; done)
        | (have hz : kf s i = false := by
            rcases hcw with ⟨_, h, _⟩ | ⟨_, h⟩ <;> (simp only [kf, gz, bc, Bool.or_eq_false_iff, Bool.and_eq_false_iff, Bool.not_eq_false', decide_eq_true_eq, decide_eq_false_iff_not]; omega)
           rw [hr, aD hnx, hz]; rfl)
      ·try simp only [au] at hc6
       refine ae ?_
       refine fK.normal ?_
       refine fK.normal ?_
       refine ae ?_
       obtain ⟨rfl, hat, -⟩ : w = 1 ∧ (c : Int) = at8 s i ∧ c < 128 := by
        rcases hcw with h | h
        ·exact h
        ·omega
       have hz : kf s i = true := by
        simp only [kf, gz, bc, Bool.or_eq_true, Bool.and_eq_true, Bool.not_eq_true', decide_eq_true_eq, decide_eq_false_iff_not]; omega
       exact ⟨i + 1, ⟨by omega, by rw [hr, aD hnx, hz]; rfl⟩, by omega, (az.to [(9, 9)] ah ah aX bJ)⟩
     ·try simp only [au] at hc5
      iterate 2 refine ae ?_
      refine ai [(1, ⟨_, .bool _⟩)] ?_
      refine ae ?_
      refine fK.ret ?_
      refine fK.ret ?_
      refine ae ?_
      refine aB (congrArg D.bool ?_)
      first
       | (exfalso; omega)
       | (rw [hr, bD (by omega)]; done)
       | (have hz : kf s i = false := by
           rcases hcw with ⟨_, h, _⟩ | ⟨_, h⟩ <;> (simp only [kf, gz, bc, Bool.or_eq_false_iff, Bool.and_eq_false_iff, Bool.not_eq_false', decide_eq_true_eq, decide_eq_false_iff_not]; omega)
          rw [hr, aD hnx, hz]; rfl)
  ·refine vg (hp := hnx) ?_
   refine bg (.bool _) ?_
   refine ai [(4, ⟨_, .bool _⟩), (5, ⟨_, _⟩)] ?_
   refine ak (t := false) (fun h => by cases h) (fun _ => ?_)
   iterate 4 refine ae ?_
   refine ai [(1, ⟨_, .bool _⟩)] ?_
   refine ae ?_
   refine aB (congrArg D.bool ?_)
   first
    | (exfalso; omega)
    | (rw [hr, bD (by omega)]; done)
    | (have hz : kf s i = false := by
        rcases hcw with ⟨_, h, _⟩ | ⟨_, h⟩ <;> (simp only [kf, gz, bc, Bool.or_eq_false_iff, Bool.and_eq_false_iff, Bool.not_eq_false', decide_eq_true_eq, decide_eq_false_iff_not]; omega)
       rw [hr, aD hnx, hz]; rfl)
def Cr (Γ : Ctx) : Prop := ∀ (s : aq), Γ.pre 208 [.str s] ∧ Γ.val 208 [.str s] = .bool (eW s)
def iI : aI := { np := 1, ns := 10, res := [⟨1, none⟩, ⟨2, none⟩], rsh := [[.a], [.a]], body := (.seq (rg [gm (i6 0), gm (cb false)] [(1, 0), (2, 1)]) (.seq (.seq (rg [gm s0, gn (bA l0 (cs [])), gm l1, ⟨.mv s0, some (2, false)⟩, ⟨.lenS l3, some (2, false)⟩, ⟨.bin .gtr l4 (i6 4), some (2, false)⟩, gn (.pick l2 (cb true) l5), gm l6, ⟨.mv s0, some (7, false)⟩, ⟨.ixS l8 (i6 0), some (7, false)⟩, ⟨.bin .eql l9 (.c (.int .u8 48)), some (7, false)⟩, ⟨.mv l10, some (7, false)⟩, ⟨.mv s0, some (11, true)⟩, ⟨.lenS lJ, some (11, true)⟩, ⟨.bin .gtr nB (i6 1), some (11, true)⟩, ⟨.pick kl nW (cb false), some (7, false)⟩, gn (.pick l7 (cb true) oN)] [(3, 16)]) (.cond s3 (.seq (rg [gm (i6 0), gm (cb false)] [(1, 0), (2, 1)]) .ret) .skip)) (.seq (rg [gm (i6 0)] [(9, 0)]) (.seq (.seq (rg [gm s0, gn (.rng l0)] [(4, 1)]) (.block 0 (.loop (.seq (rg [gn (.sW s4), ge l0 0] [(6, 0), (5, 1)]) (.seq (.cond s5 .skip (.exit 0)) (.block 1 (.seq (rg [ge s6 2, gm l0] [(7, 1)]) (.block 2 (.seq (rg [gm s7, gn (lO l0 (.c (.int .i32 48))), gm l1, ⟨.mv s7, some (2, true)⟩, ⟨.bin .leq l3 (.c (.int .i32 57)), some (2, true)⟩, gn (.pick l2 l4 (cb false)), gm l5] [(8, 6)]) (.cond s8 (rg [gm s9, gn (.bin .mul (i6 10) l0), gm s7, gn (lP l2 (.c (.int .i32 48))), gn (.cvi .i64 l3), gn (bh l1 l4), gm l5] [(9, 6)]) (.seq (rg [gm (i6 0), gm (cb false)] [(1, 0), (2, 1)]) .ret))))))))))) (.seq (rg [gm s9, gm s9, gn (Ec l1 (i6 9999)), gm l0, gm l2] [(1, 3), (2, 4)]) .ret))))) }
theorem w658 {Γ : Ctx} (hm : (Γ.at 0).bN)  (s : aq)   : bo (Γ.at 0) iI.body (eC iI (.tup [.int .i64 (dx s), .bool (gA s)]) : Ex → List aN → St → Prop) (bF iI [.str s]) ⟨0, []⟩ := by
 show bo _ _ _ [⟨true, .str s⟩, .un, .un, .un, .un, .un, .un, .un, .un, .un] ⟨0, []⟩
 refine aw ?_
 iterate 2 refine ae ?_
 refine ai [(1, ⟨_, .int _ _⟩), (2, ⟨_, .bool _⟩)] ?_
 iterate 3 refine ae ?_
 refine cH ?_
 iterate 2 refine ae ?_
 refine cv fun _ => ?_
 refine bE ?_
 refine bY ?_
 iterate 2 refine ae ?_
 refine sw 0 (hb := fun h => by simp at h; exact List.length_pos_iff.2 h.1) ?_
 refine aQ ?_
 iterate 2 refine ae ?_
 refine cv fun _ => ?_
 refine bE ?_
 refine bK ?_
 refine bY ?_
 refine ai [(3, ⟨_, .bool _⟩)] ?_
 refine ak (fun hc0 => ?_) (fun hc0 => ?_)
 ·try simp only [au] at hc0
  iterate 4 refine ae ?_
  refine ai [(1, ⟨_, .int _ _⟩), (2, ⟨_, .bool _⟩)] ?_
  refine ae ?_
  refine aB (aY (congrArg (D.int .i64) ?_) (congrArg D.bool ?_))
  all_goals
   have : gA s = false := by
    rw [xT]; rcases hc0 with (h | h) | h
    ·subst h; simp
    ·rw [decide_eq_false (by omega : ¬ s.length ≤ 4)]; simp
    ·rw [decide_eq_true (by omega : 1 < s.length), decide_eq_true h.1]; simp
   simp [dx, this]
 ·try simp only [au] at hc0
  iterate 3 refine ae ?_
  refine ai [(9, ⟨_, .int _ _⟩)] ?_
  iterate 3 refine ae ?_
  refine yT ?_
  refine ai [(4, ⟨_, _⟩)] ?_
  have h0 := List.length_pos_iff.2 hc0.1.1
  have hP : gA s = bO (fun i => bc (at8 s i)) 0 s.length := by
   rw [xT, decide_eq_true (by omega : 1 ≤ s.length), decide_eq_true (by omega : s.length ≤ 4)]; rcases hc0.2 with h | h
   ·rw [decide_eq_false h, Bool.and_false]; rfl
   ·rw [decide_eq_false (by omega : ¬ 1 < s.length)]; rfl
  refine bz hm (ι := Nat) (fun i => [⟨true, .str s⟩, .un, .un, .un, ⟨true, .it 21⟩, .un, .un, .un, .un, ⟨true, .int .i64 (dy (s.take i) : Nat)⟩]) (fun i => [(21, .iter s i)]) 22 (fun i => i ≤ s.length ∧ s.length ≤ 4 ∧ gA s = bO (fun i => bc (at8 s i)) i s.length) (fun i => s.length - i) 0 ⟨by omega, by omega, hP⟩ (az.to [(21, 21)] ah ah aX bJ) ?_
  rintro i ⟨hi, h9, hr⟩
  refine ae ?_
  by_cases hnx : i < s.length
  ·obtain ⟨c, w, hdec, hw, hcw⟩ := oA s i hnx
   refine vi c w (hp := hnx) (hc := hdec) ?_
   refine bg (.bool _) ?_
   refine ai [(5, ⟨_, .bool _⟩), (6, ⟨_, _⟩)] ?_
   refine ak (t := true) (fun _ => ?_) (fun h => by cases h)
   refine ae ?_
   refine cW ?_ hm
   refine ae ?_
   refine bg (.int _ _) ?_
   refine ae ?_
   refine ai [(7, ⟨_, .int _ _⟩)] ?_
   refine cW ?_ hm
   iterate 2 refine ae ?_
   refine iv ?_
   iterate 2 refine ae ?_
   refine jj ?_
   refine bK ?_
   refine ae ?_
   refine ai [(8, ⟨_, .bool _⟩)] ?_
   refine wp_cond (fun hc2 => ?_) (fun hc2 => ?_)
   ·try simp only [au] at hc2
    refine ae ?_
    obtain ⟨rfl, hat, -⟩ : w = 1 ∧ (c : Int) = at8 s i ∧ c < 128 := by
     rcases hcw with h | h
     ·exact h
     ·omega
    have hn := uW s i (by omega)
    have hn2 := wz s i (by omega)
    have h256 := E5 s i
    refine ae ?_
    refine DE ?_
    refine ae ?_
    refine FE ((c : Int) - 48) (hb := fun _ => IntWalk.i32_in _ (by omega)) ?_
    refine HX ((c : Int) - 48) (hb := fun _ => IntWalk.i64_in _ (by omega)) ?_
    refine aF ?_
    refine ae ?_
    refine bL [(9, ⟨_, .int _ _⟩)] ?_
    rw [show 10 * (dy (s.take i) : Int) + ((c : Int) - 48) = (dy (s.take (i + 1)) : Nat) by omega]
    refine fK.normal ?_
    refine fK.normal ?_
    refine ae ?_
    have hz : bc (at8 s i) = true := by
     simp only [bc, Bool.and_eq_true, decide_eq_true_eq]; omega
    exact ⟨i + 1, ⟨by omega, h9, by rw [hr, aD (by omega), hz]; rfl⟩, by omega, (az.to [(21, 21)] ah ah aX bJ)⟩
   ·try simp only [au] at hc2
    iterate 3 refine ae ?_
    refine ai [(1, ⟨_, .int _ _⟩), (2, ⟨_, .bool _⟩)] ?_
    refine ae ?_
    refine fK.ret ?_
    refine fK.ret ?_
    refine ae ?_
    refine aB (aY (congrArg (D.int .i64) ?_) (congrArg D.bool ?_))
    all_goals
     have hz : bc (at8 s i) = false := by
      rcases hcw with ⟨_, h, _⟩ | ⟨_, h⟩ <;> (simp only [bc, Bool.and_eq_false_iff, decide_eq_false_iff_not]; omega)
     have : gA s = false := by rw [hr, aD (by omega), hz]; rfl
     simp [dx, this]
  ·refine vg (hp := hnx) ?_
   refine bg (.bool _) ?_
   refine ai [(5, ⟨_, .bool _⟩), (6, ⟨_, _⟩)] ?_
   refine ak (t := false) (fun h => by cases h) (fun _ => ?_)
   iterate 5 refine ae ?_
   refine jj ?_
   iterate 2 refine ae ?_
   refine ai [(1, ⟨_, .int _ _⟩), (2, ⟨_, .bool _⟩)] ?_
   refine ae ?_
   refine aB (aY (congrArg (D.int .i64) ?_) (congrArg D.bool ?_))
   all_goals
    have this : gA s = true := by rw [hr, bD (by omega)]
    have ht : s.take i = s := List.take_of_length_le (by omega)
    have h9 := this
    simp only [gA, Bool.and_eq_true, decide_eq_true_eq] at h9
    have h99 := h9.2
    rw [ht]
    first
    | (simp only [dx, this]; rfl)
    | (rw [this, decide_eq_true_eq]; omega)
def Cv (Γ : Ctx) : Prop := ∀ (s : aq), Γ.pre 658 [.str s] ∧ Γ.val 658 [.str s] = .tup [.int .i64 (dx s), .bool (gA s)]
end Go.Abs
end
section
namespace Go.Abs
open Go
def jF : aI := { np := 2, ns := 10, res := [⟨2, none⟩], rsh := [[.sl 1 [.a]]], body := (.seq (rg [gm (.c (.av))] [(2, 0)]) (.seq (rg [gm (.c (.av))] [(8, 0)]) (.seq (rg [gm (i6 0)] [(9, 0)]) (.seq (.seq (rg [gm s0, gn (.lenS l0), gm (i6 0)] [(4, 1), (3, 2)]) (.block 0 (.loop (.seq (rg [gn (bQ s3 s4)] [(5, 0)]) (.seq (.cond s5 .skip (.exit 0)) (.seq (.block 1 (.seq (rg [gm s3, gm l0] [(6, 1)]) (.seq (rg [gm s0, gm s6, gn (.ixS l0 l1), gm s1, gn (bA l2 l3)] [(7, 4)]) (.cond s7 (.seq (rg [gm s8, gm s0, gm s9, gm s6, gn (.slS l1 (some l2) (some l3)), gn (.bsl 1 (.str []) 1 [(0, l4)]), gn (.app 1 l0 l5), gm l6] [(8, 7)]) (rg [gm s6, gn (bh l0 (i6 1)), gm l1] [(9, 2)])) .skip)))) (rg [gn (bh s3 (i6 1)), gm l0] [(3, 1)]))))))) (.seq (rg [gm s8, gm s0, gm s9, gn (.slS l1 (some l2) none), gn (.bsl 1 (.str []) 1 [(0, l3)]), gn (.app 1 l0 l4), gm l5] [(2, 6)]) .ret))))) }
theorem w533 {Γ : Ctx} (hm : (Γ.at 0).bN)  (s : aq) (b : Int)  (hp0 : s.length ≤ 1048576) : bo (Γ.at 0) jF.body (eC jF (.sl 1 ((ar s b).map D.str)) : Ex → List aN → St → Prop) (bF jF [.str s, .int .u8 b]) ⟨0, []⟩ := by
 show bo _ _ _ [⟨true, .str s⟩, ⟨true, .int .u8 b⟩, .un, .un, .un, .un, .un, .un, .un, .un] ⟨0, []⟩
 refine aw ?_
 refine ae ?_
 refine ai [(2, ⟨_, .av⟩)] ?_
 iterate 2 refine ae ?_
 refine ai [(8, ⟨_, .av⟩)] ?_
 iterate 2 refine ae ?_
 refine ai [(9, ⟨_, .int _ _⟩)] ?_
 iterate 3 refine ae ?_
 refine cv fun u0 => ?_; specialize u0 rfl rfl
 refine ae ?_
 refine ai [(3, ⟨_, .int _ _⟩), (4, ⟨_, .int _ _⟩)] ?_
 refine bz hm (ι := (Nat × Nat × List aq)) (fun p : Nat × Nat × List aq => [⟨true, .str s⟩, ⟨true, .int .u8 b⟩, .un, ⟨true, .int .i64 (p.1 : Nat)⟩, ⟨true, .int .i64 (s.length : Nat)⟩, .un, .un, .un, ⟨true, .own 0 1 0 p.2.2.length⟩, ⟨true, .int .i64 (p.2.1 : Nat)⟩]) (fun p => [(0, .buf 1 (p.2.2.map D.str))]) 6 (fun p => p.1 ≤ s.length ∧ p.2.1 ≤ p.1 ∧ p.2.2.length ≤ p.1 ∧ ar s b = p.2.2 ++ bq b (s.drop p.1) ((s.take p.1).drop p.2.1)) (fun p => s.length - p.1) (0, 0, []) ⟨by simp, by simp, by simp, rfl⟩ (az.to [] ah ah (by repeat (first | exact fE.nil | refine fE.un ?_ | refine fE.eq ah ?_ | refine fE.nl ah ah ?_ | refine fE.ni (Or.inr ⟨0, 1, 0, rfl⟩) ?_)) (by repeat (first | exact aV.nil | refine aV.mt ah ah ah ah ?_))) ?_
 rintro ⟨i, fr, acc⟩ ⟨hi, hf, ha, hr⟩
 dsimp only at hi hf ha hr ⊢
 refine ae ?_
 refine aW ?_
 refine ai [(5, ⟨_, .bool _⟩)] ?_
 refine ak (fun hc0 => ?_) (fun hc0 => ?_)
 ·try simp only [au] at hc0
  refine ae ?_
  refine ax ?_ hm
  iterate 3 refine ae ?_
  refine ai [(6, ⟨_, .int _ _⟩)] ?_
  iterate 3 refine ae ?_
  first | refine sw _ ?_ | refine sx ?_
  refine ae ?_
  refine aQ ?_
  refine ai [(7, ⟨_, .bool _⟩)] ?_
  refine wp_cond (fun hc1 => ?_) (fun hc1 => ?_)
  ·try simp only [au] at hc1
   iterate 5 refine ae ?_
   refine BW _ _ ?_
   refine dK [(.str _)] ?_
   refine iu ?_
   refine ae ?_
   refine ai [(8, ⟨_, .own _ _ _ _⟩)] ?_
   iterate 2 refine ae ?_
   refine aF ?_
   refine ae ?_
   refine bL [(9, ⟨_, .int _ _⟩)] ?_
   iterate 2 refine ae ?_
   refine aF ?_
   refine ae ?_
   refine bL [(3, ⟨_, .int _ _⟩)] ?_
   refine ae ?_
   exact ⟨(i + 1, i + 1, acc ++ [(s.take i).drop fr]), ⟨by dsimp only; omega, by dsimp only; omega, by simp; omega, by rw [hr, Ag (by omega) hc1]; simp⟩, by dsimp only; omega, (az.to [(20, 0)] ah ah HW (by refine aV.nl 20 ah ah ah eK ?_; exact aV.nil))⟩
  ·simp only [decide_eq_false_iff_not] at hc1
   iterate 3 refine ae ?_
   refine aF ?_
   refine ae ?_
   refine bL [(3, ⟨_, .int _ _⟩)] ?_
   refine ae ?_
   exact ⟨(i + 1, fr, acc), ⟨by dsimp only; omega, by dsimp only; omega, by dsimp only; omega, by rw [hr, Ah (by omega) (by omega) hc1]⟩, by dsimp only; omega, (az.to [(0, 0)] ah ah HW (by refine aV.nl 0 ah ah ah eK ?_; exact aV.nil))⟩
 ·try simp only [au] at hc0
  iterate 6 refine ae ?_
  refine oT _ ?_
  refine dK [(.str _)] ?_
  refine iu ?_
  refine ae ?_
  refine ai [(2, ⟨_, .own _ _ _ _⟩)] ?_
  refine ij 12 ?_
  refine ae ?_
  refine aB (?_)
  have hs : ar s b = acc ++ [s.drop fr] := by rw [hr, yg (by omega)]
  rw [hs]
  exact rfl
def Ax (Γ : Ctx) : Prop := ∀ (s : aq) (b : Int), (s.length ≤ 1048576) → Γ.pre 533 [.str s, .int .u8 b] ∧ Γ.val 533 [.str s, .int .u8 b] = .sl 1 ((ar s b).map D.str)
def fk : aI := { np := 1, ns := 7, res := [⟨1, none⟩], rsh := [[.a]], body := (.seq (rg [gm (cb false)] [(1, 0)]) (.seq (.seq (rg [gm s0, gn (.lenS l0), gm (i6 0)] [(3, 1), (2, 2)]) (.block 0 (.loop (.seq (rg [gn (bQ s2 s3)] [(4, 0)]) (.seq (.cond s4 .skip (.exit 0)) (.seq (.block 1 (.seq (rg [gm s2, gm l0] [(5, 1)]) (.seq (rg [gm s0, gm s5, gn (.ixS l0 l1), gn (bQ l2 (.c (.int .u8 48))), gm l3, ⟨.mv s0, some (4, false)⟩, ⟨.mv s5, some (4, false)⟩, ⟨.ixS l5 l6, some (4, false)⟩, ⟨.bin .gtr l7 (.c (.int .u8 57)), some (4, false)⟩, gn (.pick l4 (cb true) l8)] [(6, 9)]) (.cond s6 (.seq (rg [gm (cb false)] [(1, 0)]) .ret) .skip)))) (rg [gn (bh s2 (i6 1)), gm l0] [(2, 1)]))))))) (.seq (rg [gm s0, gn (cN l0 (cs [])), gm l1] [(1, 2)]) .ret))) }
theorem w659 {Γ : Ctx} (hm : (Γ.at 0).bN)  (t : aq)   : bo (Γ.at 0) fk.body (eC fk (.bool (hY t)) : Ex → List aN → St → Prop) (bF fk [.str t]) ⟨0, []⟩ := by
 show bo _ _ _ [⟨true, .str t⟩, .un, .un, .un, .un, .un, .un] ⟨0, []⟩
 refine aw ?_
 refine ae ?_
 refine ai [(1, ⟨_, .bool _⟩)] ?_
 iterate 3 refine ae ?_
 refine cv fun u0 => ?_; specialize u0 rfl rfl
 refine ae ?_
 refine ai [(2, ⟨_, .int _ _⟩), (3, ⟨_, .int _ _⟩)] ?_
 refine bz hm (ι := Nat) (fun i => [⟨true, .str t⟩, .un, ⟨true, .int .i64 (i : Nat)⟩, ⟨true, .int .i64 (t.length : Nat)⟩, .un, .un, .un]) (fun i => []) 4 (fun i => i ≤ t.length ∧ bO (fun i => bc (at8 t i)) 0 t.length = bO (fun i => bc (at8 t i)) i t.length) (fun i => t.length - i) 0 ⟨by omega, rfl⟩ (az.to [] ah ah aX bJ) ?_
 rintro i ⟨hi, hr⟩
 refine ae ?_
 refine aW ?_
 refine ai [(4, ⟨_, .bool _⟩)] ?_
 refine ak (fun hc0 => ?_) (fun hc0 => ?_)
 ·try simp only [au] at hc0
  refine ae ?_
  refine ax ?_ hm
  iterate 3 refine ae ?_
  refine ai [(5, ⟨_, .int _ _⟩)] ?_
  iterate 3 refine ae ?_
  first | refine sw _ ?_ | refine sx ?_
  refine aW ?_
  iterate 3 refine ae ?_
  first | refine sw _ ?_ | refine sx ?_
  refine bE ?_
  refine bY ?_
  refine ai [(6, ⟨_, .bool _⟩)] ?_
  refine wp_cond (fun hc1 => ?_) (fun hc1 => ?_)
  ·try simp only [au] at hc1
   iterate 2 refine ae ?_
   refine ai [(1, ⟨_, .bool _⟩)] ?_
   iterate 3 refine ae ?_
   refine aB (congrArg D.bool ?_)
   simp only [hY]; rw [hr, aD (by omega)]; rcases hc1 with h | h <;> simp [bc] <;> omega
  ·try simp only [au] at hc1
   iterate 3 refine ae ?_
   refine aF ?_
   refine ae ?_
   refine bL [(2, ⟨_, .int _ _⟩)] ?_
   refine ae ?_
   exact ⟨i + 1, ⟨by omega, by rw [hr, aD (by omega)]; rw [show bc (at8 t i) = true by simp only [bc, Bool.and_eq_true, decide_eq_true_eq]; omega]; rfl⟩, by omega, (az.to [] ah ah aX bJ)⟩
 ·try simp only [au] at hc0
  iterate 4 refine ae ?_
  refine cn ?_
  refine ae ?_
  refine ai [(1, ⟨_, .bool _⟩)] ?_
  refine ae ?_
  refine aB (congrArg D.bool ?_)
  simp only [hY]; rw [hr, bD (by omega)]; cases t <;> simp
def GP (Γ : Ctx) : Prop := ∀ (t : aq), Γ.pre 659 [.str t] ∧ Γ.val 659 [.str t] = .bool (hY t)
def iS : aI := { np := 1, ns := 2, res := [⟨1, none⟩], rsh := [[.a]], body := (.seq (rg [gm (cb false)] [(1, 0)]) (.seq (rg [gm s0, gn (lO l0 (i6 0)), gm l1, ⟨.mv s0, some (2, true)⟩, ⟨.bin .leq l3 (i6 9999), some (2, true)⟩, gn (.pick l2 l4 (cb false)), gm l5] [(1, 6)]) .ret)) }
theorem w440 {Γ : Ctx} (hm : (Γ.at 0).bN)  (n : Int)   : bo (Γ.at 0) iS.body (eC iS (.bool (uO n)) : Ex → List aN → St → Prop) (bF iS [.int .i64 n]) ⟨0, []⟩ := by
 show bo _ _ _ [⟨true, .int .i64 n⟩, .un] ⟨0, []⟩
 refine aw ?_
 refine ae ?_
 refine ai [(1, ⟨_, .bool _⟩)] ?_
 iterate 2 refine ae ?_
 refine iv ?_
 iterate 2 refine ae ?_
 refine jj ?_
 refine bK ?_
 refine ae ?_
 refine ai [(1, ⟨_, .bool _⟩)] ?_
 refine ae ?_
 refine aB (congrArg D.bool ?_)
 rfl
def Gv (Γ : Ctx) : Prop := ∀ (n : Int), Γ.pre 440 [.int .i64 n] ∧ Γ.val 440 [.int .i64 n] = .bool (uO n)
def gv : aI := { np := 2, ns := 9, res := [⟨2, none⟩, ⟨3, none⟩], rsh := [[.a], [.a]], body := (.seq (rg [gm (cs []), gm (cs [])] [(2, 0), (3, 1)]) (.seq (.seq (rg [gm s0, gn (.lenS l0), gm (i6 0)] [(5, 1), (4, 2)]) (.block 0 (.loop (.seq (rg [gn (bQ s4 s5)] [(6, 0)]) (.seq (.cond s6 .skip (.exit 0)) (.seq (.block 1 (.seq (rg [gm s4, gm l0] [(7, 1)]) (.seq (rg [gm s0, gm s7, gn (.ixS l0 l1), gm s1, gn (bA l2 l3)] [(8, 4)]) (.cond s8 (.seq (rt [gm s0, gm s7, gn (bh l1 (i6 1)), gn (.slS l0 (some l2) none), gm s0, gm s7, gn (.slS l4 none (some l5)), gm l3, gm l6] [(2, 7), (3, 8)]) .ret) .skip)))) (rg [gn (bh s4 (i6 1)), gm l0] [(4, 1)]))))))) (.seq (rg [gm s0, gm (cs []), gm l0] [(2, 1), (3, 2)]) .ret))) }
theorem w675 {Γ : Ctx} (hm : (Γ.at 0).bN)  (s : aq) (b : Int)   : bo (Γ.at 0) gv.body (eC gv (.tup [.str (dE s b).1, .str (dE s b).2]) : Ex → List aN → St → Prop) (bF gv [.str s, .int .u8 b]) ⟨0, []⟩ := by
 show bo _ _ _ [⟨true, .str s⟩, ⟨true, .int .u8 b⟩, .un, .un, .un, .un, .un, .un, .un] ⟨0, []⟩
 refine aw ?_
 iterate 2 refine ae ?_
 refine ai [(2, ⟨_, .str _⟩), (3, ⟨_, .str _⟩)] ?_
 iterate 3 refine ae ?_
 refine cv fun u0 => ?_; specialize u0 rfl rfl
 refine ae ?_
 refine ai [(4, ⟨_, .int _ _⟩), (5, ⟨_, .int _ _⟩)] ?_
 refine bz hm (ι := Nat) (fun i => [⟨true, .str s⟩, ⟨true, .int .u8 b⟩, .un, .un, ⟨true, .int .i64 (i : Nat)⟩, ⟨true, .int .i64 (s.length : Nat)⟩, .un, .un, .un]) (fun i => []) 5 (fun i => i ≤ s.length ∧ dE s b = gP s b i) (fun i => s.length - i) 0 ⟨by omega, rfl⟩ (az.to [] ah ah aX bJ) ?_
 rintro i ⟨hi, hr⟩
 refine ae ?_
 refine aW ?_
 refine ai [(6, ⟨_, .bool _⟩)] ?_
 refine ak (fun hc0 => ?_) (fun hc0 => ?_)
 ·try simp only [au] at hc0
  refine ae ?_
  refine ax ?_ hm
  iterate 3 refine ae ?_
  refine ai [(7, ⟨_, .int _ _⟩)] ?_
  iterate 3 refine ae ?_
  first | refine sw _ ?_ | refine sx ?_
  refine ae ?_
  refine aQ ?_
  refine ai [(8, ⟨_, .bool _⟩)] ?_
  refine wp_cond (fun hc1 => ?_) (fun hc1 => ?_)
  ·try simp only [au] at hc1
   iterate 3 refine ae ?_
   refine aF ?_
   refine oT (i + 1) ?_
   iterate 2 refine ae ?_
   refine sy _ ?_
   iterate 2 refine ae ?_
   refine ai [(2, ⟨_, .str _⟩), (3, ⟨_, .str _⟩)] ?_
   iterate 3 refine ae ?_
   refine aB (aY (congrArg D.str ?_) (congrArg D.str ?_))
   all_goals rw [hr, xt (by omega) hc1]
  ·try simp only [au] at hc1
   iterate 3 refine ae ?_
   refine aF ?_
   refine ae ?_
   refine bL [(4, ⟨_, .int _ _⟩)] ?_
   refine ae ?_
   exact ⟨i + 1, ⟨by omega, by rw [hr, xu (by omega) hc1]⟩, by omega, (az.to [] ah ah aX bJ)⟩
 ·try simp only [au] at hc0
  iterate 6 refine ae ?_
  refine ai [(2, ⟨_, .str _⟩), (3, ⟨_, .str _⟩)] ?_
  refine ae ?_
  refine aB (aY (congrArg D.str ?_) (congrArg D.str ?_))
  all_goals rw [hr, vP (by omega)]
def GR (Γ : Ctx) : Prop := ∀ (s : aq) (b : Int), Γ.pre 675 [.str s, .int .u8 b] ∧ Γ.val 675 [.str s, .int .u8 b] = .tup [.str (dE s b).1, .str (dE s b).2]
def iT : aI := { np := 1, ns := 15, res := [⟨1, none⟩], rsh := [[.a]], body := (.seq (rg [gm (cb false)] [(1, 0)]) (.seq (rg [gm s0, gx 533 [l0, (.c (.int .u8 46))] [[.a], [.a]], gm l1] [(2, 2)]) (.seq (rg [gm s2, gl l0, gn (Ec l1 (i6 4)), gm l2] [(14, 3)]) (.seq .skip (.seq (.seq (rg [gm s2, gl l0, gm (i6 0)] [(6, 0), (4, 1), (3, 2)]) (.block 0 (.loop (.seq (rg [gn (bQ s3 s4)] [(5, 0)]) (.seq (.cond s5 .skip (.exit 0)) (.seq (.block 1 (.seq (rg [ga 1 s6 s3, gd l0, gm l1] [(7, 2)]) (.seq (.seq (rg [gm s7, gn (bA l0 (cs [])), gm l1, ⟨.mv s7, some (2, false)⟩, ⟨.lenS l3, some (2, false)⟩, ⟨.bin .gtr l4 (i6 8), some (2, false)⟩, gn (.pick l2 (cb true) l5)] [(8, 6)]) (.cond s8 (.seq (rg [gm (cb false)] [(14, 0)]) (.exit 0)) .skip)) (.seq (rg [gm s7, gn (.rng l0)] [(9, 1)]) (.block 2 (.loop (.seq (rg [gn (.sW s9), ge l0 0] [(11, 0), (10, 1)]) (.seq (.cond kF .skip (.exit 2)) (.block 3 (.seq (rg [ge mV 2, gm l0] [(12, 1)]) (.seq (rg [gm jV, gn (bQ l0 (.c (.int .i32 97))), gm l1, ⟨.mv jV, some (2, false)⟩, ⟨.bin .gtr l3 (.c (.int .i32 122)), some (2, false)⟩, gn (.pick l2 (cb true) l4), gm l5, ⟨.mv jV, some (6, true)⟩, ⟨.bin .lss l7 (.c (.int .i32 48)), some (6, true)⟩, ⟨.mv l8, some (6, true)⟩, ⟨.mv jV, some (9, false)⟩, ⟨.bin .gtr l10 (.c (.int .i32 57)), some (9, false)⟩, ⟨.pick l9 (cb true) kl, some (6, true)⟩, gn (.pick l6 lJ (cb false)), gm nB, ⟨.mv jV, some (14, true)⟩, ⟨.bin .neq oN (.c (.int .i32 45)), some (14, true)⟩, gn (.pick nW qm (cb false))] [(13, 17)]) (.cond ri (.seq (rg [gm (cb false)] [(14, 0)]) (.exit 0)) .skip)))))))))))) (rg [gn (bh s3 (i6 1)), gm l0] [(3, 1)]))))))) (.seq (rg [gm vj, gm l0] [(1, 1)]) .ret)))))) }
theorem w442 {Γ : Ctx} (hm : (Γ.at 0).bN) (h533 : Ax (Γ.at 0)) (s : aq)  (hp0 : s.length ≤ 1048576) : bo (Γ.at 0) iT.body (eC iT (.bool (jZ s false)) : Ex → List aN → St → Prop) (bF iT [.str s]) ⟨0, []⟩ := by
 show bo _ _ _ [⟨true, .str s⟩, .un, .un, .un, .un, .un, .un, .un, .un, .un, .un, .un, .un, .un, .un] ⟨0, []⟩
 refine aw ?_
 refine ae ?_
 refine ai [(1, ⟨_, .bool _⟩)] ?_
 iterate 2 refine ae ?_
 refine ay (hc := h533 _ _ ?_) ?_; rotate_left; first | assumption | omega; have hlen := cY s 46
 refine ae ?_
 refine ai [(2, ⟨_, .sl _ _⟩)] ?_
 iterate 2 refine ae ?_
 refine aC fun u0 => ?_; specialize u0 rfl rfl
 refine jj ?_
 refine ae ?_
 refine ai [(14, ⟨_, .bool _⟩)] ?_
 iterate 4 refine ae ?_
 refine aC fun u1 => ?_; specialize u1 rfl rfl
 refine ae ?_
 refine ai [(3, ⟨_, .int _ _⟩), (4, ⟨_, .int _ _⟩), (6, ⟨_, .sl _ _⟩)] ?_
 refine bz hm (ι := Nat) (fun i => [.un, .un, ⟨true, .sl 1 ((ar s 46).map D.str)⟩, ⟨true, .int .i64 (i : Nat)⟩, ⟨true, .int .i64 ((ar s 46).length : Nat)⟩, .un, ⟨true, .sl 1 ((ar s 46).map D.str)⟩, .un, .un, .un, .un, .un, .un, .un, ⟨true, .bool (decide (((ar s 46).length : Int) ≤ 4))⟩]) (fun i => []) 11 (fun i => i ≤ (ar s 46).length ∧ jZ s false = (decide ((ar s 46).length ≤ 4) && bO (fun i => gu false (ar s 46)[i]!) i (ar s 46).length)) (fun i => (ar s 46).length - i) 0 ⟨by omega, rfl⟩ (az.to [] ah ah aX bJ) ?_
 rintro i ⟨hi, hr⟩
 refine ae ?_
 refine aW ?_
 refine ai [(5, ⟨_, .bool _⟩)] ?_
 refine ak (fun hc0 => ?_) (fun hc0 => ?_)
 ·try simp only [au] at hc0
  refine ae ?_
  refine ax ?_ hm
  refine ae ?_
  first | refine aP _ ?_ | refine br ?_
  first | refine aS (v := (.str _)) ?_ | refine bH (v := (.str _)) ?_
  refine ae ?_
  refine ai [(7, ⟨_, .str _⟩)] ?_
  iterate 2 refine ae ?_
  generalize ht : (ar s 46)[i]! = t
  refine ae ?_
  refine cH ?_
  iterate 2 refine ae ?_
  refine cv fun _ => ?_
  refine bE ?_
  refine bY ?_
  refine ai [(8, ⟨_, .bool _⟩)] ?_
  refine ak (fun hc1 => ?_) (fun hc1 => ?_)
  ·try simp only [au] at hc1
   iterate 3 refine ae ?_
   refine ai [(14, ⟨_, .bool _⟩)] ?_
   refine ae ?_
   refine BQ.other ah ?_
   iterate 4 refine ae ?_
   refine ai [(1, ⟨_, .bool _⟩)] ?_
   refine ae ?_
   refine aB (congrArg D.bool ?_)
   first
    | (rw [hr, bD (by omega), Bool.and_true]; exact decide_eq_decide.2 (by omega))
    | (have hb : qK t = false := by
        first
        | (simp only [qK]; rcases hc1 with h | h
           ·subst h; simp
           ·rw [decide_eq_false (by omega : ¬ t.length ≤ 8)]; simp)
        | (have hz : ki (at8 t j) = false := by
            rcases hcw with ⟨_, h, _⟩ | ⟨_, h⟩ <;> (simp only [ki, gz, bc, Bool.or_eq_false_iff, Bool.and_eq_false_iff, decide_eq_false_iff_not]; omega)
           rw [hj, aD hnx, hz]; rfl)
       rw [hr, aD (by omega), show gu false (ar s 46)[i]! = false from (by simp only [gu, ht, hb, Bool.false_and])]; simp)
  ·try simp only [au] at hc1
   iterate 3 refine ae ?_
   refine yT ?_
   refine ai [(9, ⟨_, _⟩)] ?_
   have hT : qK t = bO (fun i => ki (at8 t i)) 0 t.length := by
    have := List.length_pos_iff.2 hc1.1
    simp only [qK]; rw [decide_eq_true (by omega), decide_eq_true (by omega)]; rfl
   refine na hm (ι := Nat) (fun j => [.un, .un, ⟨true, .sl 1 ((ar s 46).map D.str)⟩, ⟨true, .int .i64 (i : Nat)⟩, ⟨true, .int .i64 ((ar s 46).length : Nat)⟩, .un, ⟨true, .sl 1 ((ar s 46).map D.str)⟩, .un, .un, ⟨true, .it 23⟩, .un, .un, .un, .un, ⟨true, .bool (decide (((ar s 46).length : Int) ≤ 4))⟩]) (fun j => [(23, .iter t j)]) 24 (fun j => j ≤ t.length ∧ qK t = bO (fun i => ki (at8 t i)) j t.length) (fun j => t.length - j) 0 ⟨by omega, hT⟩ (az.to [(23, 23)] ah ah aX bJ) ?_
   rintro j ⟨hj0, hj⟩
   refine ae ?_
   by_cases hnx : j < t.length
   ·obtain ⟨c, w, hdec, hw, hcw⟩ := oA t j hnx
    refine vi c w (hp := hnx) (hc := hdec) ?_
    refine bg (.bool _) ?_
    refine ai [(10, ⟨_, .bool _⟩), (11, ⟨_, _⟩)] ?_
    refine ak (t := true) (fun _ => ?_) (fun h => by cases h)
    refine ae ?_
    refine cW ?_ hm
    refine ae ?_
    refine bg (.int _ _) ?_
    refine ae ?_
    refine ai [(12, ⟨_, .int _ _⟩)] ?_
    iterate 2 refine ae ?_
    refine aW ?_
    iterate 2 refine ae ?_
    refine bE ?_
    refine bY ?_
    iterate 2 refine ae ?_
    refine aW ?_
    iterate 2 refine ae ?_
    refine bE ?_
    refine bY ?_
    refine bK ?_
    iterate 2 refine ae ?_
    refine bU ?_
    refine bK ?_
    refine ai [(13, ⟨_, .bool _⟩)] ?_
    refine wp_cond (fun hc3 => ?_) (fun hc3 => ?_)
    ·try simp only [au] at hc3
     iterate 2 refine ae ?_
     refine ai [(14, ⟨_, .bool _⟩)] ?_
     refine wp_exit ?_
     refine fK.other ah ?_
     refine oe.other ah ?_
     refine BQ.other ah ?_
     iterate 4 refine ae ?_
     refine ai [(1, ⟨_, .bool _⟩)] ?_
     refine ae ?_
     refine aB (congrArg D.bool ?_)
     first
      | (rw [hr, bD (by omega), Bool.and_true]; exact decide_eq_decide.2 (by omega))
      | (have hb : qK t = false := by
          first
          | (simp only [qK]; rcases hc1 with h | h
             ·subst h; simp
             ·rw [decide_eq_false (by omega : ¬ t.length ≤ 8)]; simp)
          | (have hz : ki (at8 t j) = false := by
              rcases hcw with ⟨_, h, _⟩ | ⟨_, h⟩ <;> (simp only [ki, gz, bc, Bool.or_eq_false_iff, Bool.and_eq_false_iff, decide_eq_false_iff_not]; omega)
             rw [hj, aD hnx, hz]; rfl)
         rw [hr, aD (by omega), show gu false (ar s 46)[i]! = false from (by simp only [gu, ht, hb, Bool.false_and])]; simp)
    ·try simp only [au] at hc3
     refine ae ?_
     refine fK.normal ?_
     refine oe.normal ?_
     obtain ⟨rfl, hat, -⟩ : w = 1 ∧ (c : Int) = at8 t j ∧ c < 128 := by
      rcases hcw with h | h
      ·exact h
      ·omega
     have hz : ki (at8 t j) = true := by
      simp only [ki, gz, bc, Bool.or_eq_true, Bool.and_eq_true, decide_eq_true_eq]; omega
     exact ⟨j + 1, ⟨by omega, by rw [hj, aD hnx, hz]; rfl⟩, by omega, (az.to [(23, 23)] ah ah aX bJ)⟩
   ·refine vg (hp := hnx) ?_
    refine bg (.bool _) ?_
    refine ai [(10, ⟨_, .bool _⟩), (11, ⟨_, _⟩)] ?_
    refine ak (t := false) (fun h => by cases h) (fun _ => ?_)
    refine ae ?_
    refine oe.out ?_
    iterate 2 refine ae ?_
    refine aF ?_
    refine ae ?_
    refine bL [(3, ⟨_, .int _ _⟩)] ?_
    refine ae ?_
    exact ⟨i + 1, ⟨by omega, by rw [hr, aD (by omega)]; rw [show gu false (ar s 46)[i]! = true from (by simp only [gu, Bool.false_and, Bool.not_false, Bool.and_true]; rw [ht, hj, bD (by omega)])]; rfl⟩, by omega, (az.to [] ah ah aX bJ)⟩
 ·try simp only [au] at hc0
  iterate 5 refine ae ?_
  refine ai [(1, ⟨_, .bool _⟩)] ?_
  refine ae ?_
  refine aB (congrArg D.bool ?_)
  first
   | (rw [hr, bD (by omega), Bool.and_true]; exact decide_eq_decide.2 (by omega))
   | (have hb : qK t = false := by
       first
       | (simp only [qK]; rcases hc1 with h | h
          ·subst h; simp
          ·rw [decide_eq_false (by omega : ¬ t.length ≤ 8)]; simp)
       | (have hz : ki (at8 t j) = false := by
           rcases hcw with ⟨_, h, _⟩ | ⟨_, h⟩ <;> (simp only [ki, gz, bc, Bool.or_eq_false_iff, Bool.and_eq_false_iff, decide_eq_false_iff_not]; omega)
          rw [hj, aD hnx, hz]; rfl)
      rw [hr, aD (by omega), show gu false (ar s 46)[i]! = false from (by simp only [gu, ht, hb, Bool.false_and])]; simp)
def EA (Γ : Ctx) : Prop := ∀ (s : aq), (s.length ≤ 1048576) → Γ.pre 442 [.str s] ∧ Γ.val 442 [.str s] = .bool (jZ s false)
end Go.Abs
end
section
namespace Go.Abs
open Go
def Gu (Γ : Ctx) : Prop := ∀ (n : Int), (0 ≤ n ∧ n ≤ 9999) → Γ.pre 336 [.int .i64 n] ∧ Γ.val 336 [.int .i64 n] = .str (gy n.toNat)
def Cs (Γ : Ctx) : Prop := ∀ (l : List aq) (sep : aq), (l.length ≤ 1048600) → (sep.length ≤ 4) → (∀ t ∈ l, t.length ≤ 2097200) → Γ.pre 242 [.sl 1 (l.map D.str), .str sep] ∧ Γ.val 242 [.sl 1 (l.map D.str), .str sep] = .str (bj sep l)
def Av (Γ : Ctx) : Prop := ∀ (s : aq) (b : UInt8), (s.length ≤ 1048576) → Γ.pre 124 [.str s, .str [b]] ∧ Γ.val 124 [.str s, .str [b]] = .sl 1 ((ar s b.toNat).map D.str)
def GL (Γ : Ctx) : Prop := ∀ (s : aq) (b : UInt8), (s.length ≤ 1048576) → Γ.pre 487 [.str s, .str [b]] ∧ Γ.val 487 [.str s, .str [b]] = .tup [.str (dN s b).1, .str (dN s b).2.1, .bool (dN s b).2.2]
def Gt (Γ : Ctx) : Prop := ∀ (s : aq) (p : aq), (s.length ≤ 1048576) → (p.length ≤ 1048576) → Γ.pre 254 [.str s, .str p] ∧ Γ.val 254 [.str s, .str p] = .tup [.str (cX s p).1, .bool (cX s p).2]
end Go.Abs
end
section
namespace Go.Abs
open Go
def j4 : aI := { np := 1, ns := 10, res := [⟨1, none⟩], rsh := [[.a]], body := (.seq (rg [gm (cb false)] [(1, 0)]) (.seq (.seq (rg [gm s0, gx 442 [l0] [[.a]], gn (.un .not l1)] [(2, 2)]) (.cond s2 (.seq (rg [gm (cb false)] [(1, 0)]) .ret) .skip)) (.seq (.seq (rg [gm s0, gx 533 [l0, (.c (.int .u8 46))] [[.a], [.a]], gl l1, gm (i6 0)] [(6, 1), (4, 2), (3, 3)]) (.block 0 (.loop (.seq (rg [gn (bQ s3 s4)] [(5, 0)]) (.seq (.cond s5 .skip (.exit 0)) (.seq (.block 1 (.seq (rg [ga 1 s6 s3, gd l0, gm l1] [(7, 2)]) (.seq (rg [gm s7, gx 658 [l0] [[.a]], gm l1, ge l2 0, ge l2 1, gm l3, gm l4] [(8, 6)]) (.seq (rg [gm s7, gx 659 [l0] [[.a]], gm l1, ⟨.mv s8, some (2, true)⟩, ⟨.un .not l3, some (2, true)⟩, gn (.pick l2 l4 (cb false))] [(9, 5)]) (.cond s9 (.seq (rg [gm (cb false)] [(1, 0)]) .ret) .skip))))) (rg [gn (bh s3 (i6 1)), gm l0] [(3, 1)]))))))) (.seq (rg [gm (cb true)] [(1, 0)]) .ret)))) }
theorem w441 {Γ : Ctx} (hm : (Γ.at 0).bN) (h442 : EA (Γ.at 0)) (h533 : Ax (Γ.at 0)) (h658 : Cv (Γ.at 0)) (h659 : GP (Γ.at 0)) (s : aq)  (hp0 : s.length ≤ 1048576) : bo (Γ.at 0) j4.body (eC j4 (.bool (jZ s true)) : Ex → List aN → St → Prop) (bF j4 [.str s]) ⟨0, []⟩ := by
 show bo _ _ _ [⟨true, .str s⟩, .un, .un, .un, .un, .un, .un, .un, .un, .un] ⟨0, []⟩
 refine aw ?_
 refine ae ?_
 refine ai [(1, ⟨_, .bool _⟩)] ?_
 iterate 3 refine ae ?_
 refine ay (hc := h442 _ ?_) ?_; rotate_left; first | assumption | omega
 refine ct ?_
 refine ai [(2, ⟨_, .bool _⟩)] ?_
 refine ak (fun hc0 => ?_) (fun hc0 => ?_)
 ·simp only [Bool.not_eq_true'] at hc0
  iterate 3 refine ae ?_
  refine ai [(1, ⟨_, .bool _⟩)] ?_
  refine ae ?_
  refine aB (congrArg D.bool ?_)
  symm
  simp only [jZ] at hc0 ⊢
  rw [Bool.and_eq_false_iff] at hc0 ⊢
  rcases hc0 with h | h
  ·exact Or.inl h
  ·right
   rw [Bool.eq_false_iff] at h ⊢
   intro h2; apply h
   rw [en] at h2 ⊢
   intro j a b
   have := h2 j a b
   simp only [gu, Bool.and_eq_true] at this ⊢
   exact ⟨this.1, rfl⟩
 ·simp only [Bool.not_eq_false'] at hc0
  iterate 4 refine ae ?_
  refine ay (hc := h533 _ _ ?_) ?_; rotate_left; first | assumption | omega; have hlen := cY s 46
  refine aC fun u0 => ?_; specialize u0 rfl rfl
  refine ae ?_
  refine ai [(3, ⟨_, .int _ _⟩), (4, ⟨_, .int _ _⟩), (6, ⟨_, .sl _ _⟩)] ?_
  have hT := hc0
  simp only [jZ, Bool.and_eq_true, decide_eq_true_eq] at hT
  obtain ⟨hT4, hTa⟩ := hT
  rw [en] at hTa
  have hP : jZ s true = bO (fun i => gu true (ar s 46)[i]!) 0 (ar s 46).length := by
   simp only [jZ]; rw [decide_eq_true hT4]; rfl
  refine bz hm (ι := Nat) (fun i => [.un, .un, .un, ⟨true, .int .i64 (i : Nat)⟩, ⟨true, .int .i64 ((ar s 46).length : Nat)⟩, .un, ⟨true, .sl 1 ((ar s 46).map D.str)⟩, .un, .un, .un]) (fun i => []) 8 (fun i => i ≤ (ar s 46).length ∧ jZ s true = bO (fun i => gu true (ar s 46)[i]!) i (ar s 46).length) (fun i => (ar s 46).length - i) 0 ⟨by omega, hP⟩ (az.to [] ah ah aX bJ) ?_
  rintro i ⟨hi, hr⟩
  refine ae ?_
  refine aW ?_
  refine ai [(5, ⟨_, .bool _⟩)] ?_
  refine ak (fun hc1 => ?_) (fun hc1 => ?_)
  ·try simp only [au] at hc1
   refine ae ?_
   refine ax ?_ hm
   refine ae ?_
   first | refine aP _ ?_ | refine br ?_
   first | refine aS (v := (.str _)) ?_ | refine bH (v := (.str _)) ?_
   refine ae ?_
   refine ai [(7, ⟨_, .str _⟩)] ?_
   iterate 2 refine ae ?_
   refine ay (hc := h658 _) ?_
   refine ae ?_
   refine bg (.int _ _) ?_
   refine bg (.bool _) ?_
   iterate 2 refine ae ?_
   refine ai [(8, ⟨_, .bool _⟩)] ?_
   iterate 2 refine ae ?_
   refine ay (hc := h659 _) ?_
   iterate 2 refine ae ?_
   refine ct ?_
   refine bK ?_
   refine ai [(9, ⟨_, .bool _⟩)] ?_
   refine wp_cond (fun hc2 => ?_) (fun hc2 => ?_)
   ·skip
    iterate 2 refine ae ?_
    refine ai [(1, ⟨_, .bool _⟩)] ?_
    iterate 3 refine ae ?_
    refine aB (congrArg D.bool ?_)
    have hz : gu true (ar s 46)[i]! = false := by
     simp only [gu]
     revert hc2
     generalize qK (ar s 46)[i]! = c
     generalize hY (ar s 46)[i]! = a
     generalize gA (ar s 46)[i]! = b
     cases a <;> cases b <;> cases c <;> simp
    rw [hr, aD (by omega), hz]; rfl
   ·skip
    iterate 3 refine ae ?_
    refine aF ?_
    refine ae ?_
    refine bL [(3, ⟨_, .int _ _⟩)] ?_
    refine ae ?_
    have hz : gu true (ar s 46)[i]! = true := by
     have := hTa i (by omega) (by omega)
     simp only [gu, Bool.false_and, Bool.not_false, Bool.and_true] at this
     simp only [gu, this]
     revert hc2
     generalize hY (ar s 46)[i]! = a
     generalize gA (ar s 46)[i]! = b
     cases a <;> cases b <;> simp
    exact ⟨i + 1, ⟨by omega, by rw [hr, aD (by omega), hz]; rfl⟩, by omega, (az.to [] ah ah aX bJ)⟩
  ·try simp only [au] at hc1
   iterate 4 refine ae ?_
   refine ai [(1, ⟨_, .bool _⟩)] ?_
   refine ae ?_
   refine aB (congrArg D.bool ?_)
   rw [hr, bD (by omega)]
def Gw (Γ : Ctx) : Prop := ∀ (s : aq), (s.length ≤ 1048576) → Γ.pre 441 [.str s] ∧ Γ.val 441 [.str s] = .bool (jZ s true)
def j3 : aI := { np := 1, ns := 3, res := [⟨1, none⟩], rsh := [[.a]], body := (.seq (rg [gb 5 s0, gm (cb false)] [(2, 0), (1, 1)]) (.seq (rg [gf 0 s2, gd l0, gx 440 [l1] [[.a]], gm l2, ⟨.fa 1 s2, some (3, true)⟩, ⟨.ld 1 false l4, some (3, true)⟩, ⟨.call 440 [l5] [[.a]], some (3, true)⟩, gn (.pick l3 l6 (cb false)), gm l7, ⟨.fa 2 s2, some (8, true)⟩, ⟨.ld 1 false l9, some (8, true)⟩, ⟨.call 440 [l10] [[.a]], some (8, true)⟩, gn (.pick l8 kl (cb false)), gm lJ, ⟨.fa 3 s2, some (13, true)⟩, ⟨.ld 1 false nW, some (13, true)⟩, ⟨.bin .eql oN (cs []), some (13, true)⟩, ⟨.mv qm, some (13, true)⟩, ⟨.fa 3 s2, some (17, false)⟩, ⟨.ld 1 false rU, some (17, false)⟩, ⟨.call 441 [tK] [[.a]], some (17, false)⟩, ⟨.pick rT (cb true) vz, some (13, true)⟩, gn (.pick nB wi (cb false)), gm xf, ⟨.fa 4 s2, some (23, true)⟩, ⟨.ld 1 false zK, some (23, true)⟩, ⟨.bin .eql At (cs []), some (23, true)⟩, ⟨.mv Di, some (23, true)⟩, ⟨.fa 4 s2, some (27, false)⟩, ⟨.ld 1 false F1, some (27, false)⟩, ⟨.call 442 [F2] [[.a]], some (27, false)⟩, ⟨.pick Fi (cb true) HN, some (23, true)⟩, gn (.pick yI HO (cb false)), gm HP] [(1, 33)]) .ret)) }
theorem w209 {Γ : Ctx} (hm : (Γ.at 0).bN) (h440 : Gv (Γ.at 0)) (h441 : Gw (Γ.at 0)) (h442 : EA (Γ.at 0)) (v : dP)  (hp0 : v.sm) : bo (Γ.at 0) j3.body (eC j3 (.bool (jo v)) : Ex → List aN → St → Prop) (bF j3 [dP.D v]) ⟨0, []⟩ := by
 show bo _ _ _ [⟨true, dP.D v⟩, .un, .un] ⟨0, []⟩
 refine aw ?_
 refine aZ ?_
 refine ae ?_
 refine ai [(1, ⟨_, .bool _⟩), (2, ⟨_, _⟩)] ?_
 iterate 2 refine ae ?_
 refine aj (v := (.int _ _)) ?_
 refine ay (hc := h440 _) ?_
 iterate 2 refine ae ?_
 refine aj (v := (.int _ _)) ?_
 refine ay (hc := h440 _) ?_
 refine bK ?_
 iterate 2 refine ae ?_
 refine aj (v := (.int _ _)) ?_
 refine ay (hc := h440 _) ?_
 refine bK ?_
 iterate 2 refine ae ?_
 refine aj (v := (.str _)) ?_
 refine cH ?_
 iterate 2 refine ae ?_
 refine aj (v := (.str _)) ?_
 refine jN (hc := fun hf => h441 v.pre hp0.1) ?_
 refine bY ?_
 refine bK ?_
 iterate 2 refine ae ?_
 refine aj (v := (.str _)) ?_
 refine cH ?_
 iterate 2 refine ae ?_
 refine aj (v := (.str _)) ?_
 refine jN (hc := fun hf => h442 v.build hp0.2) ?_
 refine bY ?_
 refine bK ?_
 refine ae ?_
 refine ai [(1, ⟨_, .bool _⟩)] ?_
 refine ae ?_
 refine aB (congrArg D.bool ?_)
 rfl
def Aw (Γ : Ctx) : Prop := ∀ (v : dP), (v.sm) → Γ.pre 209 [dP.D v] ∧ Γ.val 209 [dP.D v] = .bool (jo v)
def iH : aI := { np := 1, ns := 2, res := [⟨1, none⟩], rsh := [[.a]], body := (.seq (rg [gm (cs [])] [(1, 0)]) (.seq (rg [gm s0, gx 336 [l0] [[.a]], gm l1] [(1, 2)]) .ret)) }
theorem w665 {Γ : Ctx} (hm : (Γ.at 0).bN) (h336 : Gu (Γ.at 0)) (n : Int)  (hp0 : 0 ≤ n ∧ n ≤ 9999) : bo (Γ.at 0) iH.body (eC iH (.str (gy n.toNat)) : Ex → List aN → St → Prop) (bF iH [.int .i64 n]) ⟨0, []⟩ := by
 show bo _ _ _ [⟨true, .int .i64 n⟩, .un] ⟨0, []⟩
 refine aw ?_
 refine ae ?_
 refine ai [(1, ⟨_, .str _⟩)] ?_
 iterate 2 refine ae ?_
 refine ay (hc := h336 _ ?_) ?_; rotate_left; first | assumption | omega
 refine ae ?_
 refine ai [(1, ⟨_, .str _⟩)] ?_
 refine ae ?_
 refine aB (congrArg D.str ?_)
 rfl
def EM (Γ : Ctx) : Prop := ∀ (n : Int), (0 ≤ n ∧ n ≤ 9999) → Γ.pre 665 [.int .i64 n] ∧ Γ.val 665 [.int .i64 n] = .str (gy n.toNat)
def hE : aI := { np := 1, ns := 7, res := [⟨1, none⟩], rsh := [[.a]], body := (.seq (rg [gb 5 s0, gm (cs [])] [(2, 0), (1, 1)]) (.seq (.seq (rg [gk 5 true s2, gx 209 [l0] [[.a, .a, .a, .a, .a]], gn (.un .not l1)] [(3, 2)]) (.cond s3 (.seq (rg [gm (cs [])] [(1, 0)]) .ret) .skip)) (.seq (rt [gf 0 s2, gd l0, gx 665 [l1] [[.a]], gn (bh l2 (cs [46])), gf 1 s2, gd l4, gx 665 [l5] [[.a]], gn (bh l3 l6), gn (bh l7 (cs [46])), gf 2 s2, gd l9, gx 665 [l10] [[.a]], gn (bh l8 kl), gm lJ] [(5, 13)]) (.seq (.seq (rg [gf 3 s2, gd l0, gn (cN l1 (cs []))] [(4, 2)]) (.cond s4 (rg [gm s5, gf 3 s2, gd l1, gn (bh (cs [45]) l2), gn (bh l0 l3), gm l4] [(5, 5)]) .skip)) (.seq (.seq (rg [gf 4 s2, gd l0, gn (cN l1 (cs []))] [(6, 2)]) (.cond s6 (rg [gm s5, gf 4 s2, gd l1, gn (bh (cs [43]) l2), gn (bh l0 l3), gm l4] [(5, 5)]) .skip)) (.seq (rg [gm s5, gm l0] [(1, 1)]) .ret)))))) }
theorem w451 {Γ : Ctx} (hm : (Γ.at 0).bN) (h209 : Aw (Γ.at 0)) (h665 : EM (Γ.at 0)) (v : dP)  (hp0 : v.sm) : bo (Γ.at 0) hE.body (eC hE (.str (oc v)) : Ex → List aN → St → Prop) (bF hE [dP.D v]) ⟨0, []⟩ := by
 show bo _ _ _ [⟨true, dP.D v⟩, .un, .un, .un, .un, .un, .un] ⟨0, []⟩
 obtain ⟨hs1, hs2⟩ := hp0
 have hp0 : v.sm := ⟨hs1, hs2⟩
 refine aw ?_
 refine aZ ?_
 refine ae ?_
 refine ai [(1, ⟨_, .str _⟩), (2, ⟨_, _⟩)] ?_
 iterate 2 refine ae ?_
 refine bG ?_
 refine ay (hc := h209 _ ?_) ?_; rotate_left; first | assumption | omega
 refine ct ?_
 refine ai [(3, ⟨_, .bool _⟩)] ?_
 refine ak (fun hc0 => ?_) (fun hc0 => ?_)
 ·simp only [Bool.not_eq_true'] at hc0
  iterate 3 refine ae ?_
  refine ai [(1, ⟨_, .str _⟩)] ?_
  refine ae ?_
  refine aB (congrArg D.str ?_)
  simp [oc, hc0]
 ·simp only [Bool.not_eq_false'] at hc0
  iterate 2 refine ae ?_
  have hv := hc0
  simp only [jo, Bool.and_eq_true] at hv
  obtain ⟨⟨⟨⟨hv1, hv2⟩, hv3⟩, _⟩, _⟩ := hv
  have hq1 := hv1; have hq2 := hv2; have hq3 := hv3
  simp only [uO, Bool.and_eq_true, decide_eq_true_eq] at hq1 hq2 hq3
  have hl1 := eU 4 v.major.toNat (by omega) (by omega)
  have hl2 := eU 4 v.minor.toNat (by omega) (by omega)
  have hl3 := eU 4 v.patch.toNat (by omega) (by omega)
  refine ae ?_
  refine aj (v := (.int _ _)) ?_
  refine ay (hc := h665 _ ?_) ?_; rotate_left; first | assumption | omega
  refine cq (hb := fun _ => by simp; omega) ?_
  refine ae ?_
  refine aj (v := (.int _ _)) ?_
  refine ay (hc := h665 _ ?_) ?_; rotate_left; first | assumption | omega
  refine cq (hb := fun _ => by simp; omega) ?_
  refine cq (hb := fun _ => by simp; omega) ?_
  refine ae ?_
  refine aj (v := (.int _ _)) ?_
  refine ay (hc := h665 _ ?_) ?_; rotate_left; first | assumption | omega
  refine cq (hb := fun _ => by simp; omega) ?_
  refine ae ?_
  refine ai [(5, ⟨_, .str _⟩)] ?_
  iterate 3 refine ae ?_
  refine aj (v := (.str _)) ?_
  refine cn ?_
  refine ai [(4, ⟨_, .bool _⟩)] ?_
  refine ak (fun hc1 => ?_) (fun hc1 => ?_)
  ·try simp only [au] at hc1
   iterate 3 refine ae ?_
   refine aj (v := (.str _)) ?_
   refine cq (hb := fun _ => by simp; omega) ?_
   refine cq (hb := fun _ => by simp; omega) ?_
   refine ae ?_
   refine ai [(5, ⟨_, .str _⟩)] ?_
   iterate 3 refine ae ?_
   refine aj (v := (.str _)) ?_
   refine cn ?_
   refine ai [(6, ⟨_, .bool _⟩)] ?_
   refine ak (fun hc2 => ?_) (fun hc2 => ?_)
   ·try simp only [au] at hc2
    iterate 3 refine ae ?_
    refine aj (v := (.str _)) ?_
    refine cq (hb := fun _ => by simp; omega) ?_
    refine cq (hb := fun _ => by simp; omega) ?_
    refine ae ?_
    refine ai [(5, ⟨_, .str _⟩)] ?_
    iterate 3 refine ae ?_
    refine ai [(1, ⟨_, .str _⟩)] ?_
    refine ae ?_
    refine aB (congrArg D.str ?_)
    simp [oc, Al, hc0, hc1, hc2]
   ·try simp only [au] at hc2
    iterate 4 refine ae ?_
    refine ai [(1, ⟨_, .str _⟩)] ?_
    refine ae ?_
    refine aB (congrArg D.str ?_)
    simp [oc, Al, hc0, hc1, hc2]
  ·try simp only [au] at hc1
   iterate 4 refine ae ?_
   refine aj (v := (.str _)) ?_
   refine cn ?_
   refine ai [(6, ⟨_, .bool _⟩)] ?_
   refine ak (fun hc2 => ?_) (fun hc2 => ?_)
   ·try simp only [au] at hc2
    iterate 3 refine ae ?_
    refine aj (v := (.str _)) ?_
    refine cq (hb := fun _ => by simp; omega) ?_
    refine cq (hb := fun _ => by simp; omega) ?_
    refine ae ?_
    refine ai [(5, ⟨_, .str _⟩)] ?_
    iterate 3 refine ae ?_
    refine ai [(1, ⟨_, .str _⟩)] ?_
    refine ae ?_
    refine aB (congrArg D.str ?_)
    simp [oc, Al, hc0, hc1, hc2]
   ·try simp only [au] at hc2
    iterate 4 refine ae ?_
    refine ai [(1, ⟨_, .str _⟩)] ?_
    refine ae ?_
    refine aB (congrArg D.str ?_)
    simp [oc, Al, hc0, hc1, hc2]
def ED (Γ : Ctx) : Prop := ∀ (v : dP), (v.sm) → Γ.pre 451 [dP.D v] ∧ Γ.val 451 [dP.D v] = .str (oc v)
end Go.Abs
end
section
namespace Go.Abs
open Go
end Go.Abs
end
section
namespace Go.Abs
open Go
def iQ : aI := { np := 2, ns := 9, res := [⟨2, none⟩], rsh := [[.a]], body := (.seq (rg [gm (cb false)] [(2, 0)]) (.seq (.seq (rg [gm s0, gl l0, gm s1, gl l2, gn (cN l1 l3)] [(3, 4)]) (.cond s3 (.seq (rg [gm (cb false)] [(2, 0)]) .ret) .skip)) (.seq (.seq (rg [gm s0, gl l0, gm (i6 0)] [(5, 1), (4, 2)]) (.block 0 (.loop (.seq (rg [gn (bQ s4 s5)] [(6, 0)]) (.seq (.cond s6 .skip (.exit 0)) (.seq (.block 1 (.seq (rg [gm s4, gm l0] [(7, 1)]) (.seq (rt [gm s0, gm s7, ga 1 l0 l1, gd l2, gm s1, gm s7, ga 1 l4 l5, gd l6, gn (cN l3 l7)] [(8, 8)]) (.cond s8 (.seq (rg [gm (cb false)] [(2, 0)]) .ret) .skip)))) (rg [gn (bh s4 (i6 1)), gm l0] [(4, 1)]))))))) (.seq (rg [gm (cb true)] [(2, 0)]) .ret)))) }
theorem w486 {Γ : Ctx} (hm : (Γ.at 0).bN)  (a : List aq) (b : List aq)   : bo (Γ.at 0) iQ.body (eC iQ (.bool (decide (a = b))) : Ex → List aN → St → Prop) (bF iQ [.sl 1 (a.map D.str), .sl 1 (b.map D.str)]) ⟨0, []⟩ := by
 show bo _ _ _ [⟨true, .sl 1 (a.map D.str)⟩, ⟨true, .sl 1 (b.map D.str)⟩, .un, .un, .un, .un, .un, .un, .un] ⟨0, []⟩
 refine aw ?_
 refine ae ?_
 refine ai [(2, ⟨_, .bool _⟩)] ?_
 iterate 3 refine ae ?_
 refine aC fun u0 => ?_; specialize u0 rfl rfl
 refine ae ?_
 refine aC fun u1 => ?_; specialize u1 rfl rfl
 refine bU ?_
 refine ai [(3, ⟨_, .bool _⟩)] ?_
 refine ak (fun hc0 => ?_) (fun hc0 => ?_)
 ·try simp only [au] at hc0
  iterate 3 refine ae ?_
  refine ai [(2, ⟨_, .bool _⟩)] ?_
  refine ae ?_
  refine aB (congrArg D.bool ?_)
  symm; rw [decide_eq_false_iff_not]; rintro rfl; simp at hc0
 ·try simp only [au] at hc0
  iterate 4 refine ae ?_
  refine aC fun u2 => ?_; specialize u2 rfl rfl
  refine ae ?_
  refine ai [(4, ⟨_, .int _ _⟩), (5, ⟨_, .int _ _⟩)] ?_
  have hb := eA (show a.length = b.length by omega)
  refine bz hm (ι := Nat) (fun i => [⟨true, .sl 1 (a.map D.str)⟩, ⟨true, .sl 1 (b.map D.str)⟩, .un, .un, ⟨true, .int .i64 (i : Nat)⟩, ⟨true, .int .i64 (a.length : Nat)⟩, .un, .un, .un]) (fun i => []) 9 (fun i => i ≤ a.length ∧ decide (a = b) = bO (fun i => decide (a[i]! = b[i]!)) i a.length) (fun i => a.length - i) 0 ⟨by omega, hb⟩ (az.to [] ah ah aX bJ) ?_
  rintro i ⟨hi, hr⟩
  refine ae ?_
  refine aW ?_
  refine ai [(6, ⟨_, .bool _⟩)] ?_
  refine ak (fun hc1 => ?_) (fun hc1 => ?_)
  ·try simp only [au] at hc1
   refine ae ?_
   refine ax ?_ hm
   iterate 3 refine ae ?_
   refine ai [(7, ⟨_, .int _ _⟩)] ?_
   iterate 3 refine ae ?_
   first | refine aP _ ?_ | refine br ?_
   first | refine aS (v := (.str _)) ?_ | refine bH (v := (.str _)) ?_
   iterate 2 refine ae ?_
   first | refine aP _ ?_ | refine br ?_
   first | refine aS (v := (.str _)) ?_ | refine bH (v := (.str _)) ?_
   refine cn ?_
   refine ai [(8, ⟨_, .bool _⟩)] ?_
   refine wp_cond (fun hc2 => ?_) (fun hc2 => ?_)
   ·simp only [Bool.not_eq_true', decide_eq_false_iff_not] at hc2
    iterate 2 refine ae ?_
    refine ai [(2, ⟨_, .bool _⟩)] ?_
    iterate 3 refine ae ?_
    refine aB (congrArg D.bool ?_)
    rw [hr, aD (by omega), decide_eq_false hc2]; rfl
   ·simp only [Bool.not_eq_false', decide_eq_true_eq] at hc2
    iterate 3 refine ae ?_
    refine aF ?_
    refine ae ?_
    refine bL [(4, ⟨_, .int _ _⟩)] ?_
    refine ae ?_
    exact ⟨i + 1, ⟨by omega, by rw [hr, aD (by omega), decide_eq_true hc2]; rfl⟩, by omega, (az.to [] ah ah aX bJ)⟩
  ·try simp only [au] at hc1
   iterate 4 refine ae ?_
   refine ai [(2, ⟨_, .bool _⟩)] ?_
   refine ae ?_
   refine aB (congrArg D.bool ?_)
   rw [hr, bD (by omega)]
def EG (Γ : Ctx) : Prop := ∀ (a : List aq) (b : List aq), Γ.pre 486 [.sl 1 (a.map D.str), .sl 1 (b.map D.str)] ∧ Γ.val 486 [.sl 1 (a.map D.str), .sl 1 (b.map D.str)] = .bool (decide (a = b))
end Go.Abs
end
section
namespace Go.Abs
open Go
end Go.Abs
end
section
namespace Go.Abs
open Go
end Go.Abs
end
section
namespace Go.Abs
open Go
end Go.Abs
end
section
namespace Go.Abs
open Go
end Go.Abs
end
section
namespace Go.Abs
open Go
end Go.Abs
end
section
namespace Go.Abs
open Go
end Go.Abs
end
section
namespace Go.Abs
open Go
end Go.Abs
end
section
namespace Go.Abs
open Go
end Go.Abs
end
section
namespace Go.Abs
open Go
def gZ : aI := { np := 1, ns := 18, res := [⟨1, some (5, true)⟩, ⟨2, none⟩], rsh := [[.a, .a, .a, .a, .a], [.a]], body := (.seq (rg [gb 5 (.c (.agg [.int .i64 0, .int .i64 0, .int .i64 0, .str [], .str []])), gm (i6 0)] [(1, 0), (2, 1)]) (.seq (rg [gb 5 (.c (.agg [.int .i64 0, .int .i64 0, .int .i64 0, .str [], .str []]))] [(4, 0)]) (.seq (rg [gm s0, gm l0] [(3, 1)]) (.seq (rg [gm s3, gx 675 [l0, (.c (.int .u8 43))] [[.a], [.a]], gm l1, ge l2 0, ge l2 1, gf 4 s4, gt 1 l5 l3, gm l4] [(3, 7)]) (.seq (rg [gm s3, gx 675 [l0, (.c (.int .u8 45))] [[.a], [.a]], gm l1, ge l2 0, ge l2 1, gf 3 s4, gt 1 l5 l3, gm l4] [(3, 7)]) (.seq (rg [gm s3, gx 533 [l0, (.c (.int .u8 46))] [[.a], [.a]], gm l1] [(5, 2)]) (.seq (.seq (rg [gm s5, gl l0, gn (cN l1 (i6 3))] [(6, 2)]) (.cond s6 (.seq (rg [gn (.build [.int .i64 0, .int .i64 0, .int .i64 0, .str [], .str []] []), gt 5 s1 l0, gm (i6 5)] [(2, 2)]) .ret) .skip)) (.seq (rg [gb 3 (.c (.agg [.int .i64 0, .int .i64 0, .int .i64 0]))] [(16, 0)]) (.seq (.seq (rg [gm s5, gl l0, gm (i6 0)] [(10, 0), (8, 1), (7, 2)]) (.block 0 (.loop (.seq (rg [gn (bQ s7 s8)] [(9, 0)]) (.seq (.cond s9 .skip (.exit 0)) (.seq (.block 1 (.seq (rg [gm s7, ga 1 kF s7, gd l1, gm l0, gm l2] [(14, 3), (11, 4)]) (.seq (rg [gm mV, gx 658 [l0] [[.a]], gm l1, ge l2 0, ge l2 1, gm l3, gm l4] [(15, 5), (12, 6)]) (.seq (.seq (rg [gm jV, gn (.un .not l0)] [(13, 1)]) (.cond ri (.seq (rg [gn (.build [.int .i64 0, .int .i64 0, .int .i64 0, .str [], .str []] []), gt 5 s1 l0, gm (i6 5)] [(2, 2)]) .ret) .skip)) (rg [gm vj, gm sE, gn (.iaP 3 1 y6 l0), gt 1 l2 l1] []))))) (rg [gn (bh s7 (i6 1)), gm l0] [(7, 1)]))))))) (.seq (rt [gn (.iaP 3 1 y6 (i6 0)), gd l0, gn (.iaP 3 1 y6 (i6 1)), gn (.ldI 1 false l2), gn (.iaP 3 1 y6 (i6 2)), gn (.ldI 1 false l4), gf 0 s4, gt 1 l6 l1, gf 1 s4, gt 1 l8 l3, gf 2 s4, gt 1 l10 l5] []) (.seq (.seq (rg [gk 5 true s4, gx 209 [l0] [[.a, .a, .a, .a, .a]], gn (.un .not l1), gm l2, ⟨.ld 5 true s4, some (3, false)⟩, ⟨.call 451 [l4] [[.a, .a, .a, .a, .a]], some (3, false)⟩, ⟨.mv s0, some (3, false)⟩, ⟨.bin .neq l5 l6, some (3, false)⟩, gn (.pick l3 (cb true) l7)] [(17, 8)]) (.cond wS (.seq (rg [gn (.build [.int .i64 0, .int .i64 0, .int .i64 0, .str [], .str []] []), gt 5 s1 l0, gm (i6 5)] [(2, 2)]) .ret) .skip)) (.seq (rg [gk 5 true s4, gt 5 s1 l0, gm (i6 0)] [(2, 2)]) .ret)))))))))))) }
theorem w466 {Γ : Ctx} (hm : (Γ.at 0).bN) (h209 : Aw (Γ.at 0)) (h451 : ED (Γ.at 0)) (h533 : Ax (Γ.at 0)) (h658 : Cv (Γ.at 0)) (h675 : GR (Γ.at 0)) (s : aq)  (hp0 : s.length ≤ 1048576) : bo (Γ.at 0) gZ.body (eC gZ (.tup [dP.D ((lL s).getD iy), .int .i64 (sP s)]) : Ex → List aN → St → Prop) (bF gZ [.str s]) ⟨0, []⟩ := by
 show bo _ _ _ [⟨true, .str s⟩, .un, .un, .un, .un, .un, .un, .un, .un, .un, .un, .un, .un, .un, .un, .un, .un, .un] ⟨0, []⟩
 have hb1 := jA s 43
 have hb2 := jA (dE s 43).2 45
 generalize hA : dE s 43 = A at hb1 hb2
 generalize hB : dE A.2 45 = B at hb2
 have hsl := cY B.2 46
 generalize hL : ar B.2 46 = L at hsl
 have hq0 : lL s = if L.length = 3 ∧ gA L[0]! = true ∧ gA L[1]! = true ∧ gA L[2]! = true then (if jo ⟨dx L[0]!, dx L[1]!, dx L[2]!, B.1, A.1⟩ = true ∧ oc ⟨dx L[0]!, dx L[1]!, dx L[2]!, B.1, A.1⟩ = s then some ⟨dx L[0]!, dx L[1]!, dx L[2]!, B.1, A.1⟩ else none) else none := by subst hA; subst hB; subst hL; rfl
 refine aw ?_
 refine aZ ?_
 refine ae ?_
 refine ai [(1, ⟨_, _⟩), (2, ⟨_, .int _ _⟩)] ?_
 refine ae ?_
 refine aZ ?_
 refine ai [(4, ⟨_, _⟩)] ?_
 iterate 3 refine ae ?_
 refine ai [(3, ⟨_, .str _⟩)] ?_
 iterate 2 refine ae ?_
 refine ay (hc := h675 s 43) ?_; rw [hA]
 refine ae ?_
 refine bg (.str _) ?_
 refine bg (.str _) ?_
 refine ae ?_
 refine aM (dP.D ⟨0, 0, 0, [], A.1⟩) (he := by exact rfl) ?_
 refine ae ?_
 refine ai [(3, ⟨_, .str _⟩)] ?_
 iterate 2 refine ae ?_
 refine ay (hc := h675 A.2 45) ?_; rw [hB]
 refine ae ?_
 refine bg (.str _) ?_
 refine bg (.str _) ?_
 refine ae ?_
 refine aM (dP.D ⟨0, 0, 0, B.1, A.1⟩) (he := by exact rfl) ?_
 refine ae ?_
 refine ai [(3, ⟨_, .str _⟩)] ?_
 iterate 2 refine ae ?_
 refine ay (hc := h533 B.2 46 (by omega)) ?_; rw [hL]
 refine ae ?_
 refine ai [(5, ⟨_, .sl _ _⟩)] ?_
 iterate 3 refine ae ?_
 refine aC fun u0 => ?_; specialize u0 rfl rfl
 refine bU ?_
 refine ai [(6, ⟨_, .bool _⟩)] ?_
 refine ak (fun hc0 => ?_) (fun hc0 => ?_)
 ·try simp only [au] at hc0
  iterate 2 refine ae ?_
  refine b6 (dP.D iy) ?_
  refine aM _ ?_
  refine ae ?_
  refine ai [(2, ⟨_, .int _ _⟩)] ?_
  refine ae ?_
  refine aB (aY ?_ (congrArg (D.int .i64) ?_))
  all_goals
   have hq : lL s = none := by rw [hq0, if_neg (fun h => by have := h.1; omega)]
   simp only [sP, hq]
   rfl
 ·try simp only [au] at hc0
  iterate 2 refine ae ?_
  refine aZ ?_
  refine ai [(16, ⟨_, _⟩)] ?_
  iterate 3 refine ae ?_
  refine aC fun u1 => ?_; specialize u1 rfl rfl
  refine ae ?_
  refine ai [(7, ⟨_, .int _ _⟩), (8, ⟨_, .int _ _⟩), (10, ⟨_, .sl _ _⟩)] ?_
  refine bz hm (ι := Nat) (fun i => [⟨true, .str s⟩, ⟨true, .ptr 0 5 0 0⟩, .un, .un, ⟨true, .ptr 2 5 0 0⟩, .un, .un, ⟨true, .int .i64 (i : Nat)⟩, ⟨true, .int .i64 (L.length : Nat)⟩, .un, ⟨true, .sl 1 (L.map D.str)⟩, .un, .un, .un, .un, .un, ⟨true, .ptr 27 3 0 0⟩, .un]) (fun i => [(0, .buf 5 [dP.D iy]), (2, .buf 5 [dP.D ⟨0, 0, 0, B.1, A.1⟩]), (27, .buf 3 [Dn L i])]) 31 (fun i => i ≤ 3 ∧ ∀ j, j < i → gA L[j]! = true) (fun i => 3 - i) 0 ⟨by omega, fun j hj => by omega⟩ (az.to [(0, 0), (2, 2), (27, 27)] ah ah aX bJ) ?_
  rintro i ⟨hi, hr⟩
  refine ae ?_
  refine aW ?_
  refine ai [(9, ⟨_, .bool _⟩)] ?_
  refine ak (fun hc1 => ?_) (fun hc1 => ?_)
  ·try simp only [au] at hc1
   refine ae ?_
   refine ax ?_ hm
   iterate 2 refine ae ?_
   first | refine aP _ ?_ | refine br ?_
   first | refine aS (v := (.str _)) ?_ | refine bH (v := (.str _)) ?_
   iterate 2 refine ae ?_
   refine ai [(11, ⟨_, .str _⟩), (14, ⟨_, .int _ _⟩)] ?_
   iterate 2 refine ae ?_
   refine ay (hc := h658 L[i]!) ?_
   refine ae ?_
   refine bg (.int _ _) ?_
   refine bg (.bool _) ?_
   iterate 2 refine ae ?_
   refine ai [(12, ⟨_, .bool _⟩), (15, ⟨_, .int _ _⟩)] ?_
   iterate 3 refine ae ?_
   refine ct ?_
   refine ai [(13, ⟨_, .bool _⟩)] ?_
   refine ak (fun hc2 => ?_) (fun hc2 => ?_)
   ·simp only [Bool.not_eq_true'] at hc2
    iterate 2 refine ae ?_
    refine b6 (dP.D iy) ?_
    refine aM _ ?_
    refine ae ?_
    refine ai [(2, ⟨_, .int _ _⟩)] ?_
    iterate 3 refine ae ?_
    refine aB (aY ?_ (congrArg (D.int .i64) ?_))
    all_goals
     have hq : lL s = none := by
      rw [hq0, if_neg]
      rintro ⟨_, h1, h2, h3⟩
      rcases (show i = 0 ∨ i = 1 ∨ i = 2 by omega) with rfl | rfl | rfl
      ·rw [h1] at hc2; cases hc2
      ·rw [h2] at hc2; cases hc2
      ·rw [h3] at hc2; cases hc2
     simp only [sP, hq]
     rfl
   ·simp only [Bool.not_eq_false'] at hc2
    iterate 4 refine ae ?_
    refine FD i ?_
    refine aM (Dn L (i + 1)) (he := Bh L i (by omega)) ?_
    refine bL [] ?_
    iterate 2 refine ae ?_
    refine aF ?_
    refine ae ?_
    refine bL [(7, ⟨_, .int _ _⟩)] ?_
    refine ae ?_
    have hr2 : ∀ j, j < i + 1 → gA L[j]! = true := by
     intro j hj
     rcases Nat.eq_or_lt_of_le (Nat.lt_succ_iff.1 hj) with rfl | h
     ·exact hc2
     ·exact hr j h
    exact ⟨i + 1, ⟨by omega, hr2⟩, by omega, (az.to [(0, 0), (2, 2), (27, 27)] ah ah aX bJ)⟩
  ·try simp only [au] at hc1
   iterate 2 refine ae ?_
   refine ij 27 ?_
   refine ae ?_
   have h3 : i = 3 := by omega
   subst h3
   refine xZ 0 ?_
   refine bH (v := .int .i64 (dx L[0]!)) ?_
   refine xZ 1 ?_
   refine x5 (v := .int .i64 (dx L[1]!)) ?_
   refine xZ 2 ?_
   refine x5 (v := .int .i64 (dx L[2]!)) ?_
   refine ae ?_
   refine aM (dP.D ⟨dx L[0]!, 0, 0, B.1, A.1⟩) (he := by exact rfl) ?_
   refine ae ?_
   refine aM (dP.D ⟨dx L[0]!, dx L[1]!, 0, B.1, A.1⟩) (he := by exact rfl) ?_
   refine ae ?_
   refine aM (dP.D ⟨dx L[0]!, dx L[1]!, dx L[2]!, B.1, A.1⟩) (he := by exact rfl) ?_
   refine ai [] ?_
   iterate 2 refine ae ?_
   have hsm : dP.sm ⟨dx L[0]!, dx L[1]!, dx L[2]!, B.1, A.1⟩ := ⟨by simp only; omega, by simp only; omega⟩
   generalize hV : (⟨dx L[0]!, dx L[1]!, dx L[2]!, B.1, A.1⟩ : dP) = V at hsm hq0 ⊢
   refine bG ?_
   refine ay (hc := h209 V hsm) ?_
   refine ct ?_
   refine ae ?_
   refine bG ?_
   refine jN (hc := fun _ => h451 V hsm) ?_
   refine ae ?_
   refine cn ?_
   refine bY ?_
   refine ai [(17, ⟨_, .bool _⟩)] ?_
   refine ak (fun hc3 => ?_) (fun hc3 => ?_)
   ·simp only [Bool.or_eq_true, Bool.not_eq_true', decide_eq_false_iff_not] at hc3
    iterate 2 refine ae ?_
    refine b6 (dP.D iy) ?_
    refine aM _ ?_
    refine ae ?_
    refine ai [(2, ⟨_, .int _ _⟩)] ?_
    refine ae ?_
    refine aB (aY ?_ (congrArg (D.int .i64) ?_))
    all_goals
     have hq : lL s = none := by
      rw [hq0]
      split
      ·rw [if_neg]; rintro ⟨h1, h2⟩
       rcases hc3 with h | h
       ·rw [h1] at h; cases h
       ·exact h h2
      ·rfl
     simp only [sP, hq]
     rfl
   ·simp only [Bool.or_eq_false_iff, Bool.not_eq_false', decide_eq_true_eq] at hc3
    iterate 2 refine ae ?_
    refine bG ?_
    refine aM _ ?_
    refine ae ?_
    refine ai [(2, ⟨_, .int _ _⟩)] ?_
    refine ae ?_
    refine aB (aY ?_ (congrArg (D.int .i64) ?_))
    all_goals
     have hq : lL s = some V := by
      rw [hq0, if_pos ⟨by omega, hr 0 (by omega), hr 1 (by omega), hr 2 (by omega)⟩, if_pos hc3]
     simp only [sP, hq]
     rfl
def GD (Γ : Ctx) : Prop := ∀ (s : aq), (s.length ≤ 1048576) → Γ.pre 466 [.str s] ∧ Γ.val 466 [.str s] = .tup [dP.D ((lL s).getD iy), .int .i64 (sP s)]
end Go.Abs
end
section
namespace Go.Abs
open Go
end Go.Abs
end
section
namespace Go.Abs
open Go
end Go.Abs
end
section
namespace Go.Abs
open Go
end Go.Abs
end
section
namespace Go.Abs
open Go
end Go.Abs
end
section
namespace Go.Abs
open Go
end Go.Abs
end
section
namespace Go.Abs
open Go
end Go.Abs
end
section
namespace Go.Abs
open Go
end Go.Abs
end
section
namespace Go.Abs
open Go
end Go.Abs
end
section
namespace Go.Abs
open Go
end Go.Abs
end
namespace Go.Abs
end Go.Abs
section
namespace Go.Abs
open Go
end Go.Abs
end
section
namespace Go.Abs
open Go
end Go.Abs
end
section
namespace Go.Abs
open Go
def iE : aI := { np := 2, ns := 10, res := [⟨2, none⟩], rsh := [[.a]], body := (.seq (rg [gm (i6 0)] [(2, 0)]) (.seq (.seq (rg [gm s0, gl l0, gm (i6 0)] [(6, 0), (4, 1), (3, 2)]) (.block 0 (.loop (.seq (rg [gn (bQ s3 s4)] [(5, 0)]) (.seq (.cond s5 .skip (.exit 0)) (.seq (.block 1 (.seq (rg [gm s3, ga 2 s6 s3, gk 2 true l1, gb 2 (.c (.agg [.str [], .av])), gm l0, gt 2 l3 l2] [(7, 3), (9, 4)]) (.seq (rg [gf 0 s7, gd l0, gm s1, gn (bA l1 l2)] [(8, 3)]) (.cond s8 (.seq (rg [gm s9, gm l0] [(2, 1)]) .ret) .skip)))) (rg [gn (bh s3 (i6 1)), gm l0] [(3, 1)]))))))) (.seq (rg [gn (.mv (.c (.int .i64 (-1))))] [(2, 0)]) .ret))) }
theorem w663 {Γ : Ctx} (hm : (Γ.at 0).bN)  (l : List ba) (nm : aq)   : bo (Γ.at 0) iE.body (eC iE (.int .i64 (findF l nm 0)) : Ex → List aN → St → Prop) (bF iE [.sl 2 (l.map ba.D), .str nm]) ⟨0, []⟩ := by
 show bo _ _ _ [⟨true, .sl 2 (l.map ba.D)⟩, ⟨true, .str nm⟩, .un, .un, .un, .un, .un, .un, .un, .un] ⟨0, []⟩
 refine aw ?_
 refine ae ?_
 refine ai [(2, ⟨_, .int _ _⟩)] ?_
 iterate 3 refine ae ?_
 refine aC fun u0 => ?_; specialize u0 rfl rfl
 refine ae ?_
 refine ai [(3, ⟨_, .int _ _⟩), (4, ⟨_, .int _ _⟩), (6, ⟨_, .sl _ _⟩)] ?_
 refine bz hm (ι := Nat) (fun i => [⟨true, .sl 2 (l.map ba.D)⟩, ⟨true, .str nm⟩, .un, ⟨true, .int .i64 (i : Nat)⟩, ⟨true, .int .i64 (l.length : Nat)⟩, .un, ⟨true, .sl 2 (l.map ba.D)⟩, .un, .un, .un]) (fun i => []) 4 (fun i => i ≤ l.length ∧ findF l nm 0 = findF l nm i) (fun i => l.length - i) 0 ⟨by omega, rfl⟩ (az.to [] ah ah aX bJ) ?_
 rintro i ⟨hi, hr⟩
 refine ae ?_
 refine aW ?_
 refine ai [(5, ⟨_, .bool _⟩)] ?_
 refine ak (fun hc0 => ?_) (fun hc0 => ?_)
 ·try simp only [au] at hc0
  refine ae ?_
  refine ax ?_ hm
  iterate 2 refine ae ?_
  first | refine aP _ ?_ | refine br ?_
  first | refine aS (v := (ba.D _)) ?_ | refine bH (v := (ba.D _)) ?_
  refine aZ ?_
  refine ae ?_
  refine aM (ba.D l[i]!) (he := by exact rfl) ?_
  refine ai [(7, ⟨_, _⟩), (9, ⟨_, .int _ _⟩)] ?_
  iterate 2 refine ae ?_
  refine aj (v := (.str _)) ?_
  refine ae ?_
  refine cH ?_
  refine ai [(8, ⟨_, .bool _⟩)] ?_
  refine wp_cond (fun hc1 => ?_) (fun hc1 => ?_)
  ·try simp only [au] at hc1
   iterate 3 refine ae ?_
   refine ai [(2, ⟨_, .int _ _⟩)] ?_
   iterate 3 refine ae ?_
   refine aB (congrArg (D.int .i64) ?_)
   rw [hr, AW (by omega) hc1]
  ·try simp only [au] at hc1
   iterate 3 refine ae ?_
   refine aF ?_
   refine ae ?_
   refine bL [(3, ⟨_, .int _ _⟩)] ?_
   refine ae ?_
   exact ⟨i + 1, ⟨by omega, by rw [hr, AX (by omega) hc1]⟩, by omega, (az.to [] ah ah aX bJ)⟩
 ·try simp only [au] at hc0
  iterate 4 refine ae ?_
  refine ai [(2, ⟨_, .int _ _⟩)] ?_
  refine ae ?_
  refine aB (congrArg (D.int .i64) ?_)
  rw [hr, zA (by omega)]
def GQ (Γ : Ctx) : Prop := ∀ (l : List ba) (nm : aq), Γ.pre 663 [.sl 2 (l.map ba.D), .str nm] ∧ Γ.val 663 [.sl 2 (l.map ba.D), .str nm] = .int .i64 (findF l nm 0)
def gR : aI := { np := 2, ns := 3, res := [⟨2, none⟩], rsh := [[.a]], body := (.seq (rg [gm (cb false)] [(2, 0)]) (.seq (rg [gm s1, gn (bA l0 (cs [100, 101, 102, 97, 117, 108, 116])), gm l1, ⟨.mv s0, some (2, false)⟩, ⟨.mv s1, some (2, false)⟩, ⟨.call 663 [l3, l4] [[.sl 2 [.a, .sl 1 [.a]]], [.a]], some (2, false)⟩, ⟨.bin .geq l5 (i6 0), some (2, false)⟩, gn (.pick l2 (cb true) l6), gm l7] [(2, 8)]) .ret)) }
theorem w449 {Γ : Ctx} (hm : (Γ.at 0).bN) (h663 : GQ (Γ.at 0)) (l : List ba) (nm : aq)   : bo (Γ.at 0) gR.body (eC gR (.bool (isF l nm)) : Ex → List aN → St → Prop) (bF gR [.sl 2 (l.map ba.D), .str nm]) ⟨0, []⟩ := by
 show bo _ _ _ [⟨true, .sl 2 (l.map ba.D)⟩, ⟨true, .str nm⟩, .un] ⟨0, []⟩
 refine aw ?_
 refine ae ?_
 refine ai [(2, ⟨_, .bool _⟩)] ?_
 iterate 2 refine ae ?_
 refine cH ?_
 iterate 3 refine ae ?_
 refine ay (hc := h663 _ _) ?_
 refine iv ?_
 refine bY ?_
 refine ae ?_
 refine ai [(2, ⟨_, .bool _⟩)] ?_
 refine ae ?_
 refine aB (congrArg D.bool ?_)
 rfl
def GC (Γ : Ctx) : Prop := ∀ (l : List ba) (nm : aq), Γ.pre 449 [.sl 2 (l.map ba.D), .str nm] ∧ Γ.val 449 [.sl 2 (l.map ba.D), .str nm] = .bool (isF l nm)
end Go.Abs
end
section
namespace Go.Abs
open Go
def iF : aI := { np := 1, ns := 12, res := [⟨1, none⟩, ⟨2, none⟩, ⟨3, none⟩], rsh := [[.a], [.a], [.a]], body := (.seq (rg [gm (i6 0), gm (cs []), gm (cs [])] [(1, 0), (2, 1), (3, 2)]) (.seq (.seq (rg [gm s0, gx 349 [l0] [[.a]]] [(4, 1)]) (.cond s4 (.seq (rg [gm s0, gm (i6 1), gm l0, gm (cs [])] [(1, 1), (2, 2), (3, 3)]) .ret) .skip)) (.seq (.seq (rg [gm s0, gx 254 [l0, (cs [63])] [[.a], [.a]], gm l1, ge l2 0, ge l2 1, gm l3, gm l4] [(6, 5), (5, 6)]) (.seq (rg [gm s5, gm l0, ⟨.mv s6, some (1, true)⟩, ⟨.call 349 [l2] [[.a]], some (1, true)⟩, gn (.pick l1 l3 (cb false))] [(7, 4)]) (.cond s7 (.seq (rg [gm s6, gm (i6 2), gm l0, gm (cs [])] [(1, 1), (2, 2), (3, 3)]) .ret) .skip))) (.seq (.seq (rg [gm s0, gx 487 [l0, (cs [47])] [[.a], [.a]], gm l1, ge l2 0, ge l2 1, ge l2 2, gm l3, gm l4, gm l5] [(9, 6), (10, 7), (8, 8)]) (.seq (rg [gm s8, gm l0, ⟨.mv s9, some (1, true)⟩, ⟨.call 208 [l2] [[.a]], some (1, true)⟩, gn (.pick l1 l3 (cb false)), gm l4, ⟨.mv kF, some (5, true)⟩, ⟨.call 349 [l6] [[.a]], some (5, true)⟩, gn (.pick l5 l7 (cb false))] [(11, 8)]) (.cond mV (.seq (rg [gm s9, gm kF, gm (i6 3), gm l0, gm l1] [(1, 2), (2, 3), (3, 4)]) .ret) .skip))) (.seq (rg [gm (i6 0), gm (cs []), gm (cs [])] [(1, 0), (2, 1), (3, 2)]) .ret))))) }
theorem w448 {Γ : Ctx} (hm : (Γ.at 0).bN) (h208 : Cr (Γ.at 0)) (h254 : Gt (Γ.at 0)) (h349 : xh (Γ.at 0)) (h487 : GL (Γ.at 0)) (s : aq)  (hp0 : s.length ≤ 1048576) : bo (Γ.at 0) iF.body (eC iF (.tup [.int .i64 (cB s).1, .str (cB s).2.1, .str (cB s).2.2]) : Ex → List aN → St → Prop) (bF iF [.str s]) ⟨0, []⟩ := by
 show bo _ _ _ [⟨true, .str s⟩, .un, .un, .un, .un, .un, .un, .un, .un, .un, .un, .un] ⟨0, []⟩
 refine aw ?_
 iterate 3 refine ae ?_
 refine ai [(1, ⟨_, .int _ _⟩), (2, ⟨_, .str _⟩), (3, ⟨_, .str _⟩)] ?_
 iterate 3 refine ae ?_
 refine ay (hc := h349 _) ?_
 refine ai [(4, ⟨_, .bool _⟩)] ?_
 refine ak (fun hc0 => ?_) (fun hc0 => ?_)
 ·try simp only [au] at hc0
  iterate 6 refine ae ?_
  refine ai [(1, ⟨_, .int _ _⟩), (2, ⟨_, .str _⟩), (3, ⟨_, .str _⟩)] ?_
  refine ae ?_
  refine aB (j0 (congrArg (D.int .i64) ?_) (congrArg D.str ?_) (congrArg D.str ?_))
  all_goals rw [Db hc0]
 ·try simp only [au] at hc0
  iterate 4 refine ae ?_
  refine ay (hc := h254 s [63] hp0 (by decide)) ?_
  refine ae ?_
  refine bg (.str _) ?_
  refine bg (.bool _) ?_
  iterate 2 refine ae ?_
  refine ai [(5, ⟨_, .bool _⟩), (6, ⟨_, .str _⟩)] ?_
  iterate 5 refine ae ?_
  refine ay (hc := h349 _) ?_
  refine bK ?_
  refine ai [(7, ⟨_, .bool _⟩)] ?_
  refine ak (fun hc1 => ?_) (fun hc1 => ?_)
  ·try simp only [au] at hc1
   iterate 6 refine ae ?_
   refine ai [(1, ⟨_, .int _ _⟩), (2, ⟨_, .str _⟩), (3, ⟨_, .str _⟩)] ?_
   refine ae ?_
   refine aB (j0 (congrArg (D.int .i64) ?_) (congrArg D.str ?_) (congrArg D.str ?_))
   all_goals rw [Df hc0 hc1]
  ·try simp only [au] at hc1
   iterate 4 refine ae ?_
   refine ay (hc := h487 s 47 hp0) ?_
   refine ae ?_
   refine bg (.str _) ?_
   refine bg (.str _) ?_
   refine bg (.bool _) ?_
   iterate 3 refine ae ?_
   refine ai [(8, ⟨_, .bool _⟩), (9, ⟨_, .str _⟩), (10, ⟨_, .str _⟩)] ?_
   iterate 5 refine ae ?_
   refine ay (hc := h208 _) ?_
   refine bK ?_
   iterate 2 refine ae ?_
   refine ay (hc := h349 _) ?_
   refine bK ?_
   refine ai [(11, ⟨_, .bool _⟩)] ?_
   refine ak (fun hc2 => ?_) (fun hc2 => ?_)
   ·try simp only [au] at hc2
    iterate 7 refine ae ?_
    refine ai [(1, ⟨_, .int _ _⟩), (2, ⟨_, .str _⟩), (3, ⟨_, .str _⟩)] ?_
    refine ae ?_
    refine aB (j0 (congrArg (D.int .i64) ?_) (congrArg D.str ?_) (congrArg D.str ?_))
    all_goals rw [Dg hc0 hc1 hc2]
   ·try simp only [au] at hc2
    iterate 5 refine ae ?_
    refine ai [(1, ⟨_, .int _ _⟩), (2, ⟨_, .str _⟩), (3, ⟨_, .str _⟩)] ?_
    refine ae ?_
    refine aB (j0 (congrArg (D.int .i64) ?_) (congrArg D.str ?_) (congrArg D.str ?_))
    all_goals rw [De hc0 hc1 hc2]
def EB (Γ : Ctx) : Prop := ∀ (s : aq), (s.length ≤ 1048576) → Γ.pre 448 [.str s] ∧ Γ.val 448 [.str s] = .tup [.int .i64 (cB s).1, .str (cB s).2.1, .str (cB s).2.2]
end Go.Abs
end
section
namespace Go.Abs
open Go
def jD : aI := { np := 1, ns := 18, res := [⟨1, none⟩], rsh := [[.a]], body := (.seq (rg [gm (cb false)] [(1, 0)]) (.seq (.seq (rg [gm s0, gl l0, gn (fN l1 (i6 8))] [(2, 2)]) (.cond s2 (.seq (rg [gm (cb false)] [(1, 0)]) .ret) .skip)) (.seq (.seq (rg [gm s0, gl l0, gm (i6 0)] [(6, 0), (4, 1), (3, 2)]) (.block 0 (.loop (.seq (rg [gn (bQ s3 s4)] [(5, 0)]) (.seq (.cond s5 .skip (.exit 0)) (.seq (.block 1 (.seq (rg [gm s3, ga 2 s6 s3, gk 2 true l1, gb 2 (.c (.agg [.str [], .av])), gm l0, gt 2 l3 l2] [(7, 3), (8, 4)]) (.seq (.seq (rt [gf 0 s7, gd l0, gx 349 [l1] [[.a]], gn (.un .not l2), gm l3, ⟨.mv s8, some (4, false)⟩, ⟨.bin .gtr l5 (i6 0), some (4, false)⟩, ⟨.mv l6, some (4, false)⟩, ⟨.mv s0, some (7, true)⟩, ⟨.mv s8, some (7, true)⟩, ⟨.bin .sub l9 (i6 1), some (7, true)⟩, ⟨.ia 2 l8 l10, some (7, true)⟩, ⟨.fa 0 kl, some (7, true)⟩, ⟨.ld 1 false lJ, some (7, true)⟩, ⟨.fa 0 s7, some (7, true)⟩, ⟨.ld 1 false nW, some (7, true)⟩, ⟨.bin .geq nB oN, some (7, true)⟩, ⟨.pick l7 qm (cb false), some (4, false)⟩, gn (.pick l4 (cb true) rT), gm rU, ⟨.fa 1 s7, some (19, false)⟩, ⟨.ld 1 false vz, some (19, false)⟩, ⟨.len wi, some (19, false)⟩, ⟨.bin .gtr xf (i6 6), some (19, false)⟩, gn (.pick tK (cb true) yI), gm zK, ⟨.fa 1 s7, some (25, false)⟩, ⟨.ld 1 false Di, some (25, false)⟩, ⟨.call 447 [Fi] [[.sl 1 [.a]]], some (25, false)⟩, ⟨.un .not F1, some (25, false)⟩, gn (.pick At (cb true) F2)] [(9, 30)]) (.cond s9 (.seq (rg [gm (cb false)] [(1, 0)]) .ret) .skip)) (.seq (rg [gf 1 s7, gd l0, gl l1, gm (i6 0)] [(13, 1), (11, 2), (10, 3)]) (.block 2 (.loop (.seq (rg [gn (bQ kF mV)] [(12, 0)]) (.seq (.cond jV .skip (.exit 2)) (.seq (.block 3 (.seq (rg [ga 1 ri kF, gd l0, gm l1] [(14, 2)]) (.seq (rg [gm vj, gx 448 [l0] [[.a]], gm l1, ge l2 0, ge l2 1, ge l2 2, gm l3, gm l4, gm l5] [(15, 6), (16, 7)]) (.seq (rg [gm sE, gn (bA l0 (i6 0)), gm l1, ⟨.mv sE, some (2, false)⟩, ⟨.bin .eql l3 (i6 1), some (2, false)⟩, ⟨.mv l4, some (2, false)⟩, ⟨.mv s0, some (5, true)⟩, ⟨.mv y6, some (5, true)⟩, ⟨.call 449 [l6, l7] [[.sl 2 [.a, .sl 1 [.a]]], [.a]], some (5, true)⟩, ⟨.un .not l8, some (5, true)⟩, ⟨.pick l5 l9 (cb false), some (2, false)⟩, gn (.pick l2 (cb true) l10)] [(17, 11)]) (.cond wS (.seq (rg [gm (cb false)] [(1, 0)]) .ret) .skip))))) (rg [gn (bh kF (i6 1)), gm l0] [(10, 1)])))))))))) (rg [gn (bh s3 (i6 1)), gm l0] [(3, 1)]))))))) (.seq (rg [gm (cb true)] [(1, 0)]) .ret)))) }
theorem w213 {Γ : Ctx} (hm : (Γ.at 0).bN) (h349 : xh (Γ.at 0)) (h447 : GB (Γ.at 0)) (h448 : EB (Γ.at 0)) (h449 : GC (Γ.at 0)) (l : List ba)  (hp0 : qU l) : bo (Γ.at 0) jD.body (eC jD (.bool (ik l)) : Ex → List aN → St → Prop) (bF jD [.sl 2 (l.map ba.D)]) ⟨0, []⟩ := by
 show bo _ _ _ [⟨true, .sl 2 (l.map ba.D)⟩, .un, .un, .un, .un, .un, .un, .un, .un, .un, .un, .un, .un, .un, .un, .un, .un, .un] ⟨0, []⟩
 refine aw ?_
 refine ae ?_
 refine ai [(1, ⟨_, .bool _⟩)] ?_
 iterate 3 refine ae ?_
 refine aC fun u0 => ?_; specialize u0 rfl rfl
 refine bE ?_
 refine ai [(2, ⟨_, .bool _⟩)] ?_
 refine ak (fun hc0 => ?_) (fun hc0 => ?_)
 ·try simp only [au] at hc0
  iterate 3 refine ae ?_
  refine ai [(1, ⟨_, .bool _⟩)] ?_
  refine ae ?_
  refine aB (congrArg D.bool ?_)
  symm; simp only [ik]; rw [decide_eq_false (by omega)]; rfl
 ·try simp only [au] at hc0
  iterate 4 refine ae ?_
  refine aC fun u1 => ?_; specialize u1 rfl rfl
  refine ae ?_
  refine ai [(3, ⟨_, .int _ _⟩), (4, ⟨_, .int _ _⟩), (6, ⟨_, .sl _ _⟩)] ?_
  have hb : ik l = bO (kS l) 0 l.length := by simp only [ik]; rw [decide_eq_true (by omega)]; rfl
  refine bz hm (ι := Nat) (fun i => [⟨true, .sl 2 (l.map ba.D)⟩, .un, .un, ⟨true, .int .i64 (i : Nat)⟩, ⟨true, .int .i64 (l.length : Nat)⟩, .un, ⟨true, .sl 2 (l.map ba.D)⟩, .un, .un, .un, .un, .un, .un, .un, .un, .un, .un, .un]) (fun i => []) 7 (fun i => i ≤ l.length ∧ ik l = bO (kS l) i l.length) (fun i => l.length - i) 0 ⟨by omega, hb⟩ (az.to [] ah ah aX bJ) ?_
  rintro i ⟨hi, hr⟩
  refine ae ?_
  refine aW ?_
  refine ai [(5, ⟨_, .bool _⟩)] ?_
  refine ak (fun hc1 => ?_) (fun hc1 => ?_)
  ·try simp only [au] at hc1
   refine ae ?_
   refine ax ?_ hm
   iterate 2 refine ae ?_
   first | refine aP _ ?_ | refine br ?_
   first | refine aS (v := (ba.D _)) ?_ | refine bH (v := (ba.D _)) ?_
   refine aZ ?_
   refine ae ?_
   refine aM (ba.D l[i]!) (he := by exact rfl) ?_
   refine ai [(7, ⟨_, _⟩), (8, ⟨_, .int _ _⟩)] ?_
   iterate 3 refine ae ?_
   refine aj (v := (.str _)) ?_
   refine ay (hc := h349 _) ?_
   refine ct ?_
   iterate 2 refine ae ?_
   refine bE ?_
   iterate 3 refine ae ?_
   refine cA ?_
   refine aP (i - 1) ?_
   refine ez ?_
   first | refine aS (v := (.str _)) ?_ | refine bH (v := (.str _)) ?_
   refine ae ?_
   refine aj (v := (.str _)) ?_
   refine xY ?_
   refine bK ?_
   refine bY ?_
   iterate 2 refine ae ?_
   first | refine aj (v := .sl _ _) ?_ | refine aj (v := .own _ _ _ _) ?_ | refine aj (v := .av) ?_
   refine aC fun _ => ?_
   refine bE ?_
   refine bY ?_
   iterate 2 refine ae ?_
   first | refine aj (v := .sl _ _) ?_ | refine aj (v := .own _ _ _ _) ?_ | refine aj (v := .av) ?_
   refine ay (hc := h447 _) ?_
   refine ct ?_
   refine bY ?_
   refine ai [(9, ⟨_, .bool _⟩)] ?_
   refine ak (fun hc2 => ?_) (fun hc2 => ?_)
   ·have hfo := zw hc2
    iterate 3 refine ae ?_
    refine ai [(1, ⟨_, .bool _⟩)] ?_
    iterate 3 refine ae ?_
    refine aB (congrArg D.bool ?_)
    rw [hr, aD (by omega), hfo]; rfl
   ·have hfo := zx hc2
    iterate 3 refine ae ?_
    first | refine aj (v := .sl _ _) ?_ | refine aj (v := .own _ _ _ _) ?_ | refine aj (v := .av) ?_
    refine aC fun u2 => ?_; specialize u2 rfl rfl
    refine ae ?_
    refine ai [(10, ⟨_, .int _ _⟩), (11, ⟨_, .int _ _⟩), (13, ⟨_, .sl _ _⟩)] ?_
    refine na hm (ι := Nat) (fun j => [⟨true, .sl 2 (l.map ba.D)⟩, .un, .un, ⟨true, .int .i64 (i : Nat)⟩, ⟨true, .int .i64 (l.length : Nat)⟩, .un, ⟨true, .sl 2 (l.map ba.D)⟩, .un, .un, .un, ⟨true, .int .i64 (j : Nat)⟩, ⟨true, .int .i64 (l[i]!.of.length : Nat)⟩, .un, ⟨true, .sl 1 (l[i]!.of.map D.str)⟩, .un, .un, .un, .un]) (fun j => []) 49 (fun j => j ≤ l[i]!.of.length ∧ kS l i = bO (fun j => nU l l[i]!.of[j]!) j l[i]!.of.length) (fun j => l[i]!.of.length - j) 0 ⟨by omega, hfo⟩ (az.to [] ah ah aX bJ) ?_
    rintro j ⟨hj, hjr⟩
    refine ae ?_
    refine aW ?_
    refine ai [(12, ⟨_, .bool _⟩)] ?_
    refine ak (fun hc3 => ?_) (fun hc3 => ?_)
    ·try simp only [au] at hc3
     refine ae ?_
     refine ax ?_ hm
     refine ae ?_
     first | refine aP _ ?_ | refine br ?_
     first | refine aS (v := (.str _)) ?_ | refine bH (v := (.str _)) ?_
     refine ae ?_
     refine ai [(14, ⟨_, .str _⟩)] ?_
     iterate 2 refine ae ?_
     refine ay (hc := h448 l[i]!.of[j]! ((hp0 _ (cE (by omega))).2.2 _ (cE (by omega)))) ?_
     refine ae ?_
     refine bg (.int _ _) ?_
     refine bg (.str _) ?_
     refine bg (.str _) ?_
     iterate 3 refine ae ?_
     refine ai [(15, ⟨_, .int _ _⟩), (16, ⟨_, .str _⟩)] ?_
     iterate 2 refine ae ?_
     refine aQ ?_
     iterate 2 refine ae ?_
     refine aQ ?_
     iterate 3 refine ae ?_
     refine ay (hc := h449 _ _) ?_
     refine ct ?_
     refine bK ?_
     refine bY ?_
     refine ai [(17, ⟨_, .bool _⟩)] ?_
     refine wp_cond (fun hc4 => ?_) (fun hc4 => ?_)
     ·have hz : nU l l[i]!.of[j]! = false := by simp only [nU, hc4]; rfl
      iterate 2 refine ae ?_
      refine ai [(1, ⟨_, .bool _⟩)] ?_
      iterate 2 refine ae ?_
      refine oe.ret ?_
      iterate 2 refine ae ?_
      refine aB (congrArg D.bool ?_)
      rw [hr, aD (by omega), hjr, aD (by omega), hz]; rfl
     ·have hz : nU l l[i]!.of[j]! = true := by simp only [nU, hc4]; rfl
      iterate 3 refine ae ?_
      refine aF ?_
      refine ae ?_
      refine bL [(10, ⟨_, .int _ _⟩)] ?_
      refine oe.normal ?_
      exact ⟨j + 1, ⟨by omega, by rw [hjr, aD (by omega), hz]; rfl⟩, by omega, (az.to [] ah ah aX bJ)⟩
    ·try simp only [au] at hc3
     refine ae ?_
     refine oe.out ?_
     iterate 2 refine ae ?_
     refine aF ?_
     refine ae ?_
     refine bL [(3, ⟨_, .int _ _⟩)] ?_
     refine ae ?_
     exact ⟨i + 1, ⟨by omega, by rw [hr, aD (by omega), hjr, bD (by omega)]; rfl⟩, by omega, (az.to [] ah ah aX bJ)⟩
  ·try simp only [au] at hc1
   iterate 4 refine ae ?_
   refine ai [(1, ⟨_, .bool _⟩)] ?_
   refine ae ?_
   refine aB (congrArg D.bool ?_)
   rw [hr, bD (by omega)]
def Gf (Γ : Ctx) : Prop := ∀ (l : List ba), (qU l) → Γ.pre 213 [.sl 2 (l.map ba.D)] ∧ Γ.val 213 [.sl 2 (l.map ba.D)] = .bool (ik l)
end Go.Abs
end
section
namespace Go.Abs
open Go
def mG : aI := { np := 1, ns := 11, res := [⟨1, none⟩], rsh := [[.a]], body := (.seq (rg [gm (cs [])] [(1, 0)]) (.seq (.seq (rg [gm s0] [(2, 0)]) (.block 0 (.seq (rg [gn (bA s2 (i6 1)), gm l0] [(3, 1)]) (.cond s3 (.seq (rg [gm (cs [61])] [(1, 0)]) .ret) (.seq (rg [gn (bA s2 (i6 2)), gm l0] [(4, 1)]) (.cond s4 (.seq (rg [gm (cs [33, 61])] [(1, 0)]) .ret) (.seq (rg [gn (bA s2 (i6 3)), gm l0] [(5, 1)]) (.cond s5 (.seq (rg [gm (cs [60])] [(1, 0)]) .ret) (.seq (rg [gn (bA s2 (i6 4)), gm l0] [(6, 1)]) (.cond s6 (.seq (rg [gm (cs [60, 61])] [(1, 0)]) .ret) (.seq (rg [gn (bA s2 (i6 5)), gm l0] [(7, 1)]) (.cond s7 (.seq (rg [gm (cs [62])] [(1, 0)]) .ret) (.seq (rg [gn (bA s2 (i6 6)), gm l0] [(8, 1)]) (.cond s8 (.seq (rg [gm (cs [62, 61])] [(1, 0)]) .ret) (.seq (rg [gn (bA s2 (i6 7)), gm l0] [(9, 1)]) (.cond s9 (.seq (rg [gm (cs [94])] [(1, 0)]) .ret) (.seq (rg [gn (bA s2 (i6 8)), gm l0] [(10, 1)]) (.cond kF (.seq (rg [gm (cs [126])] [(1, 0)]) .ret) .skip)))))))))))))))))) (.seq (rg [gm (cs [])] [(1, 0)]) .ret))) }
theorem w957 {Γ : Ctx} (hm : (Γ.at 0).bN)  (op : Int)   : bo (Γ.at 0) mG.body (eC mG (.str (cP op)) : Ex → List aN → St → Prop) (bF mG [.int .i64 op]) ⟨0, []⟩ := by
 show bo _ _ _ [⟨true, .int .i64 op⟩, .un, .un, .un, .un, .un, .un, .un, .un, .un, .un] ⟨0, []⟩
 refine aw ?_
 refine ae ?_
 refine ai [(1, ⟨_, .str _⟩)] ?_
 iterate 3 refine ae ?_
 refine ai [(2, ⟨_, .int _ _⟩)] ?_
 refine ax ?_ hm
 refine ae ?_
 refine aQ ?_
 refine ae ?_
 refine ai [(3, ⟨_, .bool _⟩)] ?_
 refine wp_cond (fun hc0 => ?_) (fun hc0 => ?_)
 ·try simp only [au] at hc0
  iterate 2 refine ae ?_
  refine ai [(1, ⟨_, .str _⟩)] ?_
  iterate 2 refine ae ?_
  refine aB (congrArg D.str ?_)
  unfold cP; simp_all
 ·try simp only [au] at hc0
  refine ae ?_
  refine aQ ?_
  refine ae ?_
  refine ai [(4, ⟨_, .bool _⟩)] ?_
  refine wp_cond (fun hc1 => ?_) (fun hc1 => ?_)
  ·try simp only [au] at hc1
   iterate 2 refine ae ?_
   refine ai [(1, ⟨_, .str _⟩)] ?_
   iterate 2 refine ae ?_
   refine aB (congrArg D.str ?_)
   unfold cP; simp_all
  ·try simp only [au] at hc1
   refine ae ?_
   refine aQ ?_
   refine ae ?_
   refine ai [(5, ⟨_, .bool _⟩)] ?_
   refine wp_cond (fun hc2 => ?_) (fun hc2 => ?_)
   ·try simp only [au] at hc2
    iterate 2 refine ae ?_
    refine ai [(1, ⟨_, .str _⟩)] ?_
    iterate 2 refine ae ?_
    refine aB (congrArg D.str ?_)
    unfold cP; simp_all
   ·try simp only [au] at hc2
    refine ae ?_
    refine aQ ?_
    refine ae ?_
    refine ai [(6, ⟨_, .bool _⟩)] ?_
    refine wp_cond (fun hc3 => ?_) (fun hc3 => ?_)
    ·try simp only [au] at hc3
     iterate 2 refine ae ?_
     refine ai [(1, ⟨_, .str _⟩)] ?_
     iterate 2 refine ae ?_
     refine aB (congrArg D.str ?_)
     unfold cP; simp_all
    ·try simp only [au] at hc3
     refine ae ?_
     refine aQ ?_
     refine ae ?_
     refine ai [(7, ⟨_, .bool _⟩)] ?_
     refine wp_cond (fun hc4 => ?_) (fun hc4 => ?_)
     ·try simp only [au] at hc4
      iterate 2 refine ae ?_
      refine ai [(1, ⟨_, .str _⟩)] ?_
      iterate 2 refine ae ?_
      refine aB (congrArg D.str ?_)
      unfold cP; simp_all
     ·try simp only [au] at hc4
      refine ae ?_
      refine aQ ?_
      refine ae ?_
      refine ai [(8, ⟨_, .bool _⟩)] ?_
      refine wp_cond (fun hc5 => ?_) (fun hc5 => ?_)
      ·try simp only [au] at hc5
       iterate 2 refine ae ?_
       refine ai [(1, ⟨_, .str _⟩)] ?_
       iterate 2 refine ae ?_
       refine aB (congrArg D.str ?_)
       unfold cP; simp_all
      ·try simp only [au] at hc5
       refine ae ?_
       refine aQ ?_
       refine ae ?_
       refine ai [(9, ⟨_, .bool _⟩)] ?_
       refine wp_cond (fun hc6 => ?_) (fun hc6 => ?_)
       ·try simp only [au] at hc6
        iterate 2 refine ae ?_
        refine ai [(1, ⟨_, .str _⟩)] ?_
        iterate 2 refine ae ?_
        refine aB (congrArg D.str ?_)
        unfold cP; simp_all
       ·try simp only [au] at hc6
        refine ae ?_
        refine aQ ?_
        refine ae ?_
        refine ai [(10, ⟨_, .bool _⟩)] ?_
        refine wp_cond (fun hc7 => ?_) (fun hc7 => ?_)
        ·try simp only [au] at hc7
         iterate 2 refine ae ?_
         refine ai [(1, ⟨_, .str _⟩)] ?_
         iterate 2 refine ae ?_
         refine aB (congrArg D.str ?_)
         unfold cP; simp_all
        ·try simp only [au] at hc7
         iterate 4 refine ae ?_
         refine ai [(1, ⟨_, .str _⟩)] ?_
         refine ae ?_
         refine aB (congrArg D.str ?_)
         unfold cP; simp_all
def ER (Γ : Ctx) : Prop := ∀ (op : Int), Γ.pre 957 [.int .i64 op] ∧ Γ.val 957 [.int .i64 op] = .str (cP op)
def jB : aI := { np := 2, ns := 3, res := [⟨2, none⟩], rsh := [[.a]], body := (.seq (rg [gm (cb false)] [(2, 0)]) (.seq (rg [gm s0, gn (.lenS l0), gm s1, gn (.lenS l2), gn (lO l1 l3), gm l4, ⟨.mv s0, some (5, true)⟩, ⟨.mv s1, some (5, true)⟩, ⟨.lenS l7, some (5, true)⟩, ⟨.slS l6 none (some l8), some (5, true)⟩, ⟨.mv s1, some (5, true)⟩, ⟨.bin .eql l9 l10, some (5, true)⟩, gn (.pick l5 kl (cb false)), gm lJ] [(2, 13)]) .ret)) }
theorem w956 {Γ : Ctx} (hm : (Γ.at 0).bN)  (s : aq) (w : aq)   : bo (Γ.at 0) jB.body (eC jB (.bool (py s w)) : Ex → List aN → St → Prop) (bF jB [.str s, .str w]) ⟨0, []⟩ := by
 show bo _ _ _ [⟨true, .str s⟩, ⟨true, .str w⟩, .un] ⟨0, []⟩
 refine aw ?_
 refine ae ?_
 refine ai [(2, ⟨_, .bool _⟩)] ?_
 iterate 2 refine ae ?_
 refine cv fun u0 => ?_; specialize u0 rfl rfl
 refine ae ?_
 refine cv fun u1 => ?_; specialize u1 rfl rfl
 refine iv ?_
 iterate 3 refine ae ?_
 refine cv fun _ => ?_
 refine sy w.length (hj := fun _ => rfl) (hb := fun h => by simp at h; omega) ?_
 refine ae ?_
 refine cH ?_
 refine bK ?_
 refine ae ?_
 refine ai [(2, ⟨_, .bool _⟩)] ?_
 refine ae ?_
 refine aB (congrArg D.bool ?_)
 unfold py; rw [show decide ((w.length : Int) ≤ (s.length : Int)) = decide (w.length ≤ s.length) from decide_eq_decide.2 (by omega)]
def G0 (Γ : Ctx) : Prop := ∀ (s : aq) (w : aq), Γ.pre 956 [.str s, .str w] ∧ Γ.val 956 [.str s, .str w] = .bool (py s w)
end Go.Abs
end
