/- A part of the proofs of the statements of package linchpinlaw33: LSpec4, LSpec5, LAsm, LExt, LQ, T1, T2, T3, T4. -/
import Derived.KernelRfl
import Derived.Test.YtbpdiikonpbgeaaGreatDoorP05
set_option linter.all false
section
namespace Go.Abs
theorem Gs.nxt_i (g : Gs) : g.nxt.i = g.i + 1 := rfl
theorem Gs.val_range (g : Gs) (n : Int) (h : 1 ≤ n) : 0 ≤ g.val n ∧ g.val n < n := placeI_range _ _ h
def dflW : Str := [100, 101, 102, 97, 117, 108, 116]
def fW : Str := [102]
def mainW : Str := [109, 97, 105, 110]
def sideW : Str := [115, 105, 100, 101]
def namesM : List Str := [[97, 110, 116], [98, 101, 101], [99, 111, 119], [100, 111, 103]]
def versM : List Ver := [⟨1, 0, 0, [], []⟩, ⟨1, 2, 0, [], []⟩, ⟨2, 0, 0, [97, 46, 49], []⟩, ⟨2, 0, 0, [], []⟩]
def shelM : List Str := [mainW, sideW, []]
def envsM : List Str := [[], [108, 105, 110, 117, 120], [112, 108, 97, 110, 57]]
def envM (n : Int) : Env := ⟨envsM[(placeI n 3).toNat]!, [], []⟩
def sumM (g : Gs) (sh : Str) (su : Int) : Int × Gs := if sh = [] then ((if 0 < g.val 9 then 0 else su), g.nxt) else (su, g)
def featM (g : Gs) : List Str × Gs :=
  if g.val 4 = 0 then ([dflW], g.nxt) else if g.val 4 = 1 then ([dflW, fW], g.nxt) else if g.val 4 = 2 then ([fW, dflW].drop (g.nxt.val 2).toNat, g.nxt.nxt) else ([], g.nxt)
def lineM (i : Nat) (g : Gs) : Lkd × Gs :=
  let a := sumM g.nxt.nxt.nxt shelM[(g.nxt.val 3).toNat]! (g.nxt.nxt.val 1073741824)
  let b := featM a.2
  (⟨namesM[i]!, versM[(g.val 4).toNat]!, shelM[(g.nxt.val 3).toNat]!, a.1, b.1⟩, b.2)
def stepM (i : Nat) (g : Gs) (ls : List Lkd) : Gs × List Lkd := if g.val 3 = 0 then (g.nxt, ls) else ((lineM i g.nxt).2, ls ++ [(lineM i g.nxt).1])
def loopM : Nat → Nat → Gs → List Lkd → List Lkd
  | 0, _, _, ls => ls
  | n + 1, i, g, ls => loopM n (i + 1) (stepM i g ls).1 (stepM i g ls).2
def lockM (ks : List Int) : Lck := ⟨envM ((⟨ks, 0⟩ : Gs).val 3), loopM 4 0 (⟨ks, 0⟩ : Gs).nxt []⟩
/-- a line, with no features as nil -/
def nlS : List Str → D
  | [] => .nils
  | a :: r => .sl 1 ((a :: r).map D.str)
theorem nlS_noLoc : ∀ l, (nlS l).noLoc = true
  | [] => rfl
  | a :: r => rfl
def Lkd.N (x : Lkd) : Go.Abs.D := .agg [.str x.name, .int .i64 x.v.major, .int .i64 x.v.minor, .int .i64 x.v.patch, .str x.v.pre, .str x.v.build, .str x.shelf, .int .u64 x.sum, nlS x.feats]
theorem Lkd.N_noLoc (x : Lkd) : x.N.noLoc = true := by
  have := nlS_noLoc x.feats
  simp only [Lkd.N, D.noLoc, noLocs, this, Bool.and_true]
theorem step_run {i : Nat} {g : Gs} {ls : List Lkd} {n : Nat} {g' : Gs} {ls' : List Lkd} (h : stepM i g ls = (g', ls')) : loopM (n + 1) i g ls = loopM n (i + 1) g' ls' := by
  simp only [loopM, h]
theorem step_mk {i : Nat} {g : Gs} {ls : List Lkd} {su : Int} {g5 g6 : Gs} {fs : List Str} (h0 : ¬ g.val 3 = 0) (ha : sumM g.nxt.nxt.nxt.nxt shelM[(g.nxt.nxt.val 3).toNat]! (g.nxt.nxt.nxt.val 1073741824) = (su, g5)) (hb : featM g5 = (fs, g6)) :
    stepM i g ls = (g6, ls ++ [⟨namesM[i]!, versM[(g.nxt.val 4).toNat]!, shelM[(g.nxt.nxt.val 3).toNat]!, su, fs⟩]) := by
  simp only [stepM, if_neg h0, lineM, ha, hb]
end Go.Abs
namespace Go.Abs
/-- a line whose features are given as an abstract value -/
def Lkd.F (name : Str) (v : Ver) (shelf : Str) (sum : Int) (fs : Go.Abs.D) : Go.Abs.D := .agg [.str name, .int .i64 v.major, .int .i64 v.minor, .int .i64 v.patch, .str v.pre, .str v.build, .str shelf, .int .u64 sum, fs]
theorem fzD_F (l k : Nat) (es : List Go.Abs.D) (a : Str) (v : Ver) (s : Str) (n : Int) (fs : Go.Abs.D) : fzD l k es (Lkd.F a v s n fs) = Lkd.F a v s n (fzD l k es fs) := rfl
theorem fzD_Gs (l k : Nat) (es : List Go.Abs.D) (g : Gs) : fzD l k es (Gs.D g) = Gs.D g := rfl
mutual
theorem fzD_nl (l k : Nat) (es : List D) : ∀ d : D, d.noLoc = true → fzD l k es d = d
  | .agg a, h => by simp only [fzD, fzL_nl l k es a (by simpa [D.noLoc] using h)]
  | .tup a, h => by simp only [fzD, fzL_nl l k es a (by simpa [D.noLoc] using h)]
  | .fn n a, h => by simp only [fzD, fzL_nl l k es a (by simpa [D.noLoc] using h)]
  | .own .., h => by simp [D.noLoc] at h
  | .ptr .., h => by simp [D.noLoc] at h
  | .it .., h => by simp [D.noLoc] at h
  | .any, _ | .bool _, _ | .int .., _ | .str _, _ | .nils, _ | .sl .., _ | .ref .., _ | .nilp, _ | .nilf, _ => rfl
theorem fzL_nl (l k : Nat) (es : List D) : ∀ ds : List D, noLocs ds = true → fzL l k es ds = ds
  | [], _ => rfl
  | d :: r, h => by
    simp only [noLocs, Bool.and_eq_true] at h
    simp only [fzL, fzD_nl l k es d h.1, fzL_nl l k es r h.2]
end
theorem fzL_N (l k : Nat) (es : List D) (ls : List Lkd) : fzL l k es (ls.map Lkd.N) = ls.map Lkd.N := fzL_nl l k es _ (noLocs_map Lkd.N_noLoc _)
end Go.Abs
namespace Go.Abs
theorem lckN_V {m : List (Nat × Blk)} {l : Nat} (E : Env) (ls : List Lkd) (hl : look m l = some (.buf 9 (ls.map Lkd.N))) : xV m [.a, .a, .a, .sl 9 [.a, .a, .a, .a, .a, .a, .a, .a, .sl 1 [.a]]] (.agg [.str E.e0, .str E.e1, .str E.e2, .own l 9 0 ls.length]) = Lck.D ⟨E, ls⟩ := by
  show D.agg [.str E.e0, .str E.e1, .str E.e2, .sl 9 _] = _
  simp only [bufEls, hl, List.drop_zero, take_map_len, List.map_map]
  show _ = D.agg [.str E.e0, .str E.e1, .str E.e2, .sl 9 (ls.map Lkd.D)]
  refine congrArg (fun q => D.agg [.str E.e0, .str E.e1, .str E.e2, .sl 9 q]) (?_ : _ = ls.map Lkd.D)
  refine List.map_congr_left fun x _ => ?_
  obtain ⟨a, v, s, n, fs⟩ := x
  cases fs <;> rfl
theorem lckN_O {m : List (Nat × Blk)} {l : Nat} (E : Env) (ls : List Lkd) (hl : look m l = some (.buf 9 (ls.map Lkd.N))) : xVO m [.a, .a, .a, .sl 9 [.a, .a, .a, .a, .a, .a, .a, .a, .sl 1 [.a]]] (.agg [.str E.e0, .str E.e1, .str E.e2, .own l 9 0 ls.length]) := by
  simp only [xVO, xLO, xCO, D.noLoc, bufEls, hl, List.drop_zero, take_map_len, true_and]
  refine ⟨⟨by simp [bufOK, hl], ?_⟩, rfl⟩
  intro e he
  obtain ⟨⟨a, v, s, n, fs⟩, _, rfl⟩ := List.mem_map.1 he
  cases fs <;> exact ⟨rfl, rfl, rfl, rfl, rfl, rfl, rfl, rfl, rfl, rfl⟩
end Go.Abs
namespace Go.Abs
def nm7 : List Str := [[97, 110, 116], [98, 101, 101], [99, 111, 119], [100, 111, 103], [101, 108, 107], [65, 110, 116], []]
def sh5 : List Str := [mainW, sideW, [], [101, 108, 115, 101], [45]]
def ft3 : List Str := [[103], dflW, fW]
def bu3 : List Str := [[], [98, 49], [43]]
def bentM (l : Lck) (pa pw pb : Int) : Lck :=
  if l.lines = [] then l else
  let k := (placeI pa l.lines.length).toNat
  let x := l.lines[k]!
  if placeI pw 8 = 0 then ⟨l.env, l.lines.set k { x with name := nm7[(placeI pb 7).toNat]! }⟩
  else if placeI pw 8 = 1 then ⟨l.env, l.lines.set k { x with v := versM[(placeI pb 4).toNat]! }⟩
  else if placeI pw 8 = 2 then ⟨l.env, l.lines.set k { x with shelf := sh5[(placeI pb 5).toNat]! }⟩
  else if placeI pw 8 = 3 then ⟨l.env, l.lines.set k { x with sum := IntKind.u64.wrap (x.sum + placeI pb 3) }⟩
  else if placeI pw 8 = 4 then ⟨l.env, l.lines.set k { x with feats := x.feats ++ [ft3[(placeI pb 3).toNat]!] }⟩
  else if placeI pw 8 = 5 then ⟨l.env, l.lines.set k { x with v := { x.v with build := bu3[(placeI pb 3).toNat]! } }⟩
  else if placeI pw 8 = 6 then ⟨l.env, l.lines.take k ++ l.lines.drop (k + 1)⟩
  else ⟨envM pb, l.lines⟩
/-- the lines as they are copied: one has a row of features of its own -/
def bq (L c : Nat) (ls : List Lkd) (k j : Nat) : D := if j = k then Lkd.F ls[j]!.name ls[j]!.v ls[j]!.shelf ls[j]!.sum (.own L 1 0 c) else Lkd.D ls[j]!
theorem bq_ne {L c : Nat} {ls : List Lkd} {k i : Nat} (h : i ≠ k) : ((List.range i).map (bq L c ls k)) ++ [Lkd.D ls[i]!] = (List.range (i + 1)).map (bq L c ls k) := by
  rw [List.range_succ, List.map_append]
  simp [bq, h]
theorem bq_eq {L L0 c c0 : Nat} {ls : List Lkd} {k i : Nat} (h : i = k) : ((List.range i).map (bq L0 c0 ls k)) ++ [Lkd.F ls[i]!.name ls[i]!.v ls[i]!.shelf ls[i]!.sum (.own L 1 0 c)] = (List.range (i + 1)).map (bq L c ls k) := by
  rw [List.range_succ, List.map_append]
  congr 1
  · apply List.map_congr_left
    intro j hj
    have : j < i := List.mem_range.1 hj
    have hne : j ≠ k := by omega
    simp [bq, hne]
  · simp [bq, h]
theorem fz_bq' {L k : Nat} {ls : List Lkd} {fs : List Str} (h : k < ls.length) : fzL L 1 (fs.map D.str) ((List.range ls.length).map (bq L fs.length ls k)) = (ls.set k { ls[k]! with feats := fs }).map Lkd.D := by
  have e : ∀ js : List Nat, fzL L 1 (fs.map D.str) (js.map (bq L fs.length ls k)) = js.map fun j => if j = k then Lkd.D { ls[k]! with feats := fs } else Lkd.D ls[j]! := by
    intro js
    induction js with
    | nil => rfl
    | cons j r ih =>
      simp only [List.map_cons, fzL, ih]
      congr 1
      by_cases hj : j = k
      · subst hj
        simp only [bq, if_true, fzD_F]
        simp only [fzD, Nat.zero_add, List.length_map, Nat.le_refl, and_self, if_true, List.drop_zero, take_map_len]
        rfl
      · simp only [bq, if_neg hj]
        exact fzD_nl _ _ _ _ rfl
  rw [e]
  apply List.ext_getElem
  · simp
  · intro i h1 h2
    simp at h1
    by_cases hj : i = k
    · subst hj; simp
    · simp [hj, Ne.symm hj, h1]
theorem fz_bq {L k : Nat} {ls : List Lkd} (h : k < ls.length) : fzL L 1 (ls[k]!.feats.map D.str) ((List.range ls.length).map (bq L ls[k]!.feats.length ls k)) = ls.map Lkd.D := by
  rw [fz_bq' h]
  congr 1
  apply List.ext_getElem
  · simp
  · intro i h1 h2
    by_cases hj : i = k
    · subst hj; simp [h]
    · simp [Ne.symm hj]
theorem stE_map {α : Type} [Inhabited α] {q : α → D} {xs : List α} {k K n o : Nat} {v : D} {x' : α} (h : k < xs.length) (hv : stEl (q xs[k]!) K n o v = q x') : (xs.map q).set k (stEl ((xs.map q).getD k .any) K n o v) = (xs.set k x').map q := by
  rw [getD_map h, hv, List.map_set]
theorem take_map_set {α β : Type} (q : α → β) (xs : List α) (k : Nat) (x : α) : ((xs.set k x).map q).take xs.length = (xs.set k x).map q := List.take_of_length_le (by simp)
theorem bq_st {L L' c c' k : Nat} {ls : List Lkd} (h : k < ls.length) : ((List.range ls.length).map (bq L c ls k)).set k (stEl (((List.range ls.length).map (bq L c ls k)).getD k .any) 9 1 8 (.own L' 1 0 c')) = (List.range ls.length).map (bq L' c' ls k) := by
  apply List.ext_getElem
  · simp
  · intro i h1 h2
    simp at h2
    by_cases hj : i = k
    · subst hj
      simp only [List.getElem_set_self, List.getElem_map, List.getElem_range, List.getD_eq_getElem?_getD, List.getElem?_map, List.getElem?_range h, Option.map_some, Option.getD_some]
      simp only [bq, if_true]
      rfl
    · simp only [List.getElem_set_ne (Ne.symm hj), List.getElem_map, List.getElem_range, bq, if_neg hj]
theorem bq_get {L c k : Nat} {ls : List Lkd} (h : k < ls.length) : ldEl (bq L c ls k (List.range ls.length)[k]!) 9 1 8 false = .own L 1 0 c := by
  have : (List.range ls.length)[k]! = k := by simp [h]
  rw [this]
  simp only [bq, if_true]
  rfl
end Go.Abs
namespace Go.Abs
theorem rn_map {lo : Nat} {σ : List (Nat × Nat)} {α : Type} {q q' : α → D} : ∀ xs : List α, (∀ x, rnD lo σ (q x) = some (q' x)) → rnDs lo σ (xs.map q) = some (xs.map q')
  | [], _ => rfl
  | a :: r, h => by simp only [List.map_cons, rnDs, h a, rn_map r h]
theorem rn_bq {lo : Nat} {σ : List (Nat × Nat)} {L L' c k : Nat} {ls : List Lkd} (h : rnN lo σ L = some L') (xs : List Nat) : rnDs lo σ (xs.map (bq L c ls k)) = some (xs.map (bq L' c ls k)) := by
  refine rn_map xs fun j => ?_
  by_cases hj : j = k
  · simp only [bq, if_pos hj, Lkd.F, rnD, rnDs, rnL, h]
  · simp only [bq, if_neg hj]
    rfl
end Go.Abs
namespace Go.Abs
theorem fz_bqo {L L' c k K : Nat} {ls : List Lkd} {es : List D} (h : L' ≠ L) (xs : List Nat) : fzL L K es (xs.map (bq L' c ls k)) = xs.map (bq L' c ls k) := by
  induction xs with
  | nil => rfl
  | cons j r ih =>
    simp only [List.map_cons, fzL, ih]
    congr 1
    by_cases hj : j = k
    · simp only [bq, if_pos hj, fzD_F]
      simp only [fzD, h, false_and, if_false]
    · simp only [bq, if_neg hj]
      exact fzD_nl _ _ _ _ rfl
theorem fz_ifs {L K : Nat} {es : List D} {p : Prop} [Decidable p] {fs : List Str} : fzL L K es (if p then fs.map D.str else []) = if p then fs.map D.str else [] := by
  split
  · exact fzL_nl _ _ _ _ (noLocs_map (fun _ => rfl) _)
  · rfl
end Go.Abs
namespace Go.Abs
theorem cut_k {α β : Type} (q : α → β) (xs : List α) (k a : Nat) (ha : (xs.take k).length ≤ a) : (((xs.take k).map q).drop 0).take a ++ ((xs.map q).drop (0 + (k + 1))).take (xs.length - (k + 1)) = (xs.take k ++ xs.drop (k + 1)).map q := by
  rw [List.drop_zero, Nat.zero_add, List.map_append, List.map_drop]
  congr 1
  · exact List.take_of_length_le (by simpa using ha)
  · exact List.take_of_length_le (by simp)
end Go.Abs
end
section
namespace Go.Abs
def few1 (x : Lkd) : Bool := !(decide (30 < x.feats.length) || decide (100 < x.name.length) || decide (100 < x.shelf.length))
def fewB (l : Lck) : Bool := decide (l.lines.length ≤ 60) && allF (fun i => few1 l.lines[i]!) 0 l.lines.length
def awL : Lck := ⟨⟨[], [], []⟩, [⟨[97, 110, 116], ⟨1, 0, 0, [], []⟩, mainW, 5, [dflW]⟩]⟩
def awF : Str := firstW ++ [10] ++ [112, 108, 97, 116, 102, 111, 114, 109, 32, 45, 32, 45, 32, 45, 10] ++ [97, 110, 116, 32, 49, 46, 48, 46, 48, 32, 109, 97, 105, 110, 32, 48, 48, 48, 48, 48, 48, 48, 48, 48, 48, 48, 48, 48, 48, 48, 53, 32, 100, 101, 102, 97, 117, 108, 116, 10]
theorem aw_body : bodyS awL = awF := by rfl
theorem aw_may : lckB awL = true := by rfl
theorem aw_find : findI awL.lines [97, 110, 116] 0 = 0 := by rfl
theorem aw_prS : prS awL = lckS awL := by rfl
theorem aw_prE : prE awL = 0 := by rfl
theorem aw_parse : parseX (lckS awL) = (awL, 0, 0) := by kernel_rfl
end Go.Abs
namespace Go.Abs
theorem eqDs_bool (b : Bool) : eqDs (D.bool b).cells (D.bool b).cells = true := by cases b <;> rfl
theorem Kp.eq (a b : Kp) : eqDs (Kp.D a).cells (Kp.D b).cells = decide (a = b) := by
  obtain ⟨n1, ⟨a1, a2, a3, a4, a5⟩⟩ := a
  obtain ⟨n2, ⟨b1, b2, b3, b4, b5⟩⟩ := b
  simp only [Kp.D, D.cells, eqDs, eqD_str, eqD_int, Kp.mk.injEq, Ver.mk.injEq, Bool.and_true]
  simp only [Bool.decide_and]
theorem prS_len (l : Lck) : (prS l).length ≤ 8192 := by
  unfold prS; split
  · rename_i h; exact h.2
  · simp
theorem aw_p : parseX (prS awL) = (awL, 0, 0) := by rw [aw_prS]; exact aw_parse
theorem aw_sm : awL.sm := by
  refine ⟨by decide, ?_, ?_⟩
  · intro x hx
    simp only [awL, List.mem_singleton] at hx
    subst hx
    exact ⟨⟨by decide, by decide⟩, by decide, by decide, by decide, by decide⟩
  · intro i
    match i with
    | 0 => decide
    | 1 => decide
    | _ + 2 => show ([] : Str).length ≤ _; decide
theorem aw_text : prS awL = awF ++ [115, 117, 109, 32] ++ textL (sumL awF) ++ [10] := by rw [aw_prS]; unfold lckS; rw [aw_body]
theorem get_le {l : List Str} {B : Nat} (h : ∀ t ∈ l, t.length ≤ B) (i : Nat) : (l[i]!).length ≤ B := by
  by_cases hi : i < l.length
  · simp only [hi, getElem!_pos]; exact h _ (List.getElem_mem _)
  · simp only [List.getElem!_eq_getElem?_getD, List.getElem?_eq_none (Nat.le_of_not_lt hi), Option.getD_none]
    exact Nat.zero_le _
theorem ver_ok (i : Nat) : (versM[i]!).pre.length ≤ 3 ∧ (versM[i]!).build.length ≤ 2 := by
  by_cases hi : i < 4
  · have : ∀ j : Fin 4, (versM[j.1]!).pre.length ≤ 3 ∧ (versM[j.1]!).build.length ≤ 2 := by decide
    exact this ⟨i, hi⟩
  · have : versM[i]! = default := by
      simp only [List.getElem!_eq_getElem?_getD, List.getElem?_eq_none (show versM.length ≤ i by simp [versM]; omega), Option.getD_none]
    rw [this]; decide
/-- a line such as the generators make -/
structure Lkd.ok (n : Nat) (x : Lkd) : Prop where
  pre : x.v.pre.length ≤ 3
  build : x.v.build.length ≤ 2
  name : x.name.length ≤ 16
  shelf : x.shelf.length ≤ 16
  nf : x.feats.length ≤ n
  ft : ∀ t ∈ x.feats, t.length ≤ 16
  sum : 0 ≤ x.sum ∧ x.sum < 18446744073709551616
structure Lck.ok (n : Nat) (l : Lck) : Prop where
  len : l.lines.length ≤ 4
  lines : ∀ x ∈ l.lines, x.ok n
  env : ∀ i, (l.env.at i).length ≤ 16
theorem Lck.ok.sm {n : Nat} {l : Lck} (h : l.ok n) (hn : n ≤ 1000) : l.sm := by
  refine ⟨by have := h.len; omega, fun x hx => ?_, fun i => by have := h.env i; omega⟩
  have k := h.lines x hx
  have k1 := k.pre; have k2 := k.build; have k3 := k.name; have k4 := k.shelf; have k5 := k.nf
  exact ⟨⟨by omega, by omega⟩, by omega, by omega, by omega, fun t ht => by have := k.ft t ht; omega⟩
theorem envM_ok (n : Int) (i : Nat) : ((envM n).at i).length ≤ 16 := by
  have h : ∀ t ∈ envsM, t.length ≤ 16 := by decide
  match i with
  | 0 => exact get_le h _
  | 1 => show ([] : Str).length ≤ _; decide
  | _ + 2 => show ([] : Str).length ≤ _; decide
theorem featM_ok (g : Gs) : (featM g).1.length ≤ 2 ∧ ∀ t ∈ (featM g).1, t.length ≤ 16 := by
  have h1 : ([dflW].length ≤ 2 ∧ ∀ t ∈ [dflW], t.length ≤ 16) := by decide
  have h2 : ([dflW, fW].length ≤ 2 ∧ ∀ t ∈ [dflW, fW], t.length ≤ 16) := by decide
  have h3 : ∀ t ∈ [fW, dflW], t.length ≤ 16 := by decide
  unfold featM
  split
  · exact h1
  · split
    · exact h2
    · split
      · exact ⟨by simp [List.length_drop], fun t ht => h3 t (List.mem_of_mem_drop ht)⟩
      · exact ⟨by simp, by simp⟩
theorem lineM_ok (i : Nat) (g : Gs) : (lineM i g).1.ok 2 := by
  have hn : ∀ t ∈ namesM, t.length ≤ 16 := by decide
  have hs : ∀ t ∈ shelM, t.length ≤ 16 := by decide
  have hv := ver_ok (g.val 4).toNat
  simp only [lineM]
  have hb2 := featM_ok (sumM g.nxt.nxt.nxt shelM[(g.nxt.val 3).toNat]! (g.nxt.nxt.val 1073741824)).2
  generalize featM _ = b at hb2
  refine ⟨hv.1, hv.2, get_le hn _, get_le hs _, hb2.1, hb2.2, ?_⟩
  have hr := g.nxt.nxt.val_range 1073741824 (by omega)
  simp only [sumM]
  split
  · simp only; split <;> omega
  · simp only; omega
theorem loopM_ok : ∀ (n i : Nat) (g : Gs) (ls : List Lkd), (∀ x ∈ ls, x.ok 2) → (∀ x ∈ loopM n i g ls, x.ok 2) ∧ (loopM n i g ls).length ≤ ls.length + n
  | 0, _, _, ls, h => ⟨h, by simp [loopM]⟩
  | n + 1, i, g, ls, h => by
    simp only [loopM]
    have hs : (∀ x ∈ (stepM i g ls).2, x.ok 2) ∧ (stepM i g ls).2.length ≤ ls.length + 1 := by
      unfold stepM
      split
      · exact ⟨h, by simp⟩
      · refine ⟨fun x hx => ?_, by simp⟩
        rcases List.mem_append.1 hx with hx | hx
        · exact h x hx
        · rw [List.mem_singleton] at hx; subst hx; exact lineM_ok i _
    obtain ⟨a, b⟩ := loopM_ok n (i + 1) (stepM i g ls).1 (stepM i g ls).2 hs.1
    exact ⟨a, by omega⟩
theorem lockM_ok (ks : List Int) : (lockM ks).ok 2 := by
  obtain ⟨a, b⟩ := loopM_ok 4 0 (⟨ks, 0⟩ : Gs).nxt [] (by simp)
  exact ⟨by simpa [lockM] using b, a, envM_ok _⟩
theorem set_ok {n : Nat} {ls : List Lkd} {k : Nat} {x : Lkd} (h : ∀ y ∈ ls, y.ok n) (hx : x.ok n) : ∀ y ∈ ls.set k x, y.ok n := by
  intro y hy
  rcases List.mem_or_eq_of_mem_set hy with h1 | h1
  · exact h y h1
  · subst h1; exact hx
theorem Lkd.ok.mono {n m : Nat} {x : Lkd} (h : x.ok n) (hm : n ≤ m) : x.ok m := ⟨h.pre, h.build, h.name, h.shelf, Nat.le_trans h.nf hm, h.ft, h.sum⟩
theorem bentM_ok {n : Nat} {l : Lck} (h : l.ok n) (a w b : Int) : (bentM l a w b).ok (n + 1) := by
  have hl : ∀ y ∈ l.lines, y.ok (n + 1) := fun y hy => (h.lines y hy).mono (by omega)
  have h7 : ∀ t ∈ nm7, t.length ≤ 16 := by decide
  have h5 : ∀ t ∈ sh5, t.length ≤ 16 := by decide
  have h3 : ∀ t ∈ ft3, t.length ≤ 16 := by decide
  have h2 : ∀ t ∈ bu3, t.length ≤ 2 := by decide
  unfold bentM
  by_cases hnil : l.lines = []
  · rw [if_pos hnil]
    exact ⟨h.len, hl, h.env⟩
  rw [if_neg hnil]
  have hpos : 0 < l.lines.length := List.length_pos_iff.2 hnil
  have hp := placeI_range a l.lines.length (by omega)
  have hk : (placeI a l.lines.length).toNat < l.lines.length := by omega
  have hx := h.lines _ (mem_get hk)
  have hx1 := hl _ (mem_get hk)
  have key : ∀ y : Lkd, y.ok (n + 1) → Lck.ok (n + 1) ⟨l.env, l.lines.set (placeI a l.lines.length).toNat y⟩ := fun y hy => ⟨by simpa using h.len, set_ok hl hy, h.env⟩
  simp only
  split
  · exact key _ ⟨hx1.pre, hx1.build, get_le h7 _, hx1.shelf, hx1.nf, hx1.ft, hx1.sum⟩
  split
  · exact key _ ⟨(ver_ok _).1, (ver_ok _).2, hx1.name, hx1.shelf, hx1.nf, hx1.ft, hx1.sum⟩
  split
  · exact key _ ⟨hx1.pre, hx1.build, hx1.name, get_le h5 _, hx1.nf, hx1.ft, hx1.sum⟩
  split
  · exact key _ ⟨hx1.pre, hx1.build, hx1.name, hx1.shelf, hx1.nf, hx1.ft, by simp only; rw [IntKind.wrap_u64]; omega⟩
  split
  · refine key _ ⟨hx1.pre, hx1.build, hx1.name, hx1.shelf, ?_, ?_, hx1.sum⟩
    · have := hx.nf; simp only [List.length_append, List.length_cons, List.length_nil]; omega
    · intro t ht
      rcases List.mem_append.1 ht with ht | ht
      · exact hx.ft t ht
      · rw [List.mem_singleton] at ht; subst ht; exact get_le h3 _
  split
  · exact key _ ⟨hx1.pre, get_le h2 _, hx1.name, hx1.shelf, hx1.nf, hx1.ft, hx1.sum⟩
  split
  · refine ⟨by have := h.len; simp; omega, fun y hy => ?_, h.env⟩
    rcases List.mem_append.1 hy with hy | hy
    · exact hl y (List.mem_of_mem_take hy)
    · exact hl y (List.mem_of_mem_drop hy)
  · exact ⟨h.len, hl, envM_ok b⟩
theorem bent_same {n : Nat} {l : Lck} (h : l.ok n) : bentM l 0 3 0 = l := by
  unfold bentM
  by_cases hnil : l.lines = []
  · rw [if_pos hnil]
  rw [if_neg hnil]
  have hpos : 0 < l.lines.length := List.length_pos_iff.2 hnil
  have hp := placeI_range 0 l.lines.length (by omega)
  have hk : (placeI 0 l.lines.length).toNat < l.lines.length := by omega
  have hx := (h.lines _ (mem_get hk)).sum
  have e : placeI 3 8 = 3 := by decide
  have e0 : placeI 0 3 = 0 := by decide
  generalize (placeI 0 l.lines.length).toNat = k at hk hx
  simp only [e, e0, if_true, Int.reduceEq, if_false]
  have hw : IntKind.u64.wrap (l.lines[k]!.sum + 0) = l.lines[k]!.sum := by rw [IntKind.wrap_u64]; omega
  rw [hw]
  obtain ⟨env, lines⟩ := l
  simp only at hk ⊢
  congr 1
  apply List.ext_getElem
  · simp
  · intro i h1 h2
    by_cases hj : i = k
    · subst hj; simp [hk]
    · simp [Ne.symm hj]
end Go.Abs
end
section
namespace Go.Abs
def unS : D → Str
  | .str s => s
  | _ => []
def unI : D → Int
  | .int _ n => n
  | _ => 0
def unB : D → Bool
  | .bool b => b
  | _ => false
def unL {α : Type} (q : D → α) : D → List α
  | .sl _ es => es.map q
  | _ => []
theorem unL_map {α : Type} {q : D → α} {p : α → D} (h : ∀ x, q (p x) = x) (k : Nat) (xs : List α) : unL q (.sl k (xs.map p)) = xs := by
  simp only [unL, List.map_map]
  conv => rhs; rw [← List.map_id xs]
  exact List.map_congr_left fun x _ => h x
def unVer : D → Ver
  | .agg [a, b, c, d, e] => ⟨unI a, unI b, unI c, unS d, unS e⟩
  | _ => default
def unEnv : D → Env
  | .agg [a, b, c] => ⟨unS a, unS b, unS c⟩
  | _ => default
def unLkd : D → Lkd
  | .agg [a, b, c, d, e, f, g, h, i] => ⟨unS a, ⟨unI b, unI c, unI d, unS e, unS f⟩, unS g, unI h, unL unS i⟩
  | _ => default
theorem unLkd_D (x : Lkd) : unLkd (Lkd.D x) = x := by
  show (⟨x.name, x.v, x.shelf, x.sum, unL unS (.sl 1 (x.feats.map D.str))⟩ : Lkd) = x
  rw [unL_map (fun _ => rfl)]
def unLck : D → Lck
  | .agg [a, b, c, d] => ⟨⟨unS a, unS b, unS c⟩, unL unLkd d⟩
  | _ => default
theorem unLck_D (l : Lck) : unLck (Lck.D l) = l := by
  show (⟨l.env, unL unLkd (.sl 9 (l.lines.map Lkd.D))⟩ : Lck) = l
  rw [unL_map unLkd_D]
def unKp : D → Kp
  | .agg [a, b, c, d, e, f] => ⟨unS a, ⟨unI b, unI c, unI d, unS e, unS f⟩⟩
  | _ => default
def unGs : D → Gs
  | .agg [a, b] => ⟨unL unI a, unI b⟩
  | _ => default
theorem unGs_D (g : Gs) : unGs (Gs.D g) = g := by
  show (⟨unL unI (.sl 1 (g.l.map (D.int .i64))), g.i⟩ : Gs) = g
  rw [unL_map (fun _ => rfl)]
def unRdr : D → Rdr
  | .agg [a, b, c] => ⟨unS a, (unI b).toNat, (unI c).toNat⟩
  | _ => ⟨[], 0, 0⟩
theorem unRdr_D (r : Rdr) : unRdr (Rdr.D r) = r := rfl
def unBytes (d : D) : Str := unL (fun e => UInt8.ofNat (unI e).toNat) d
theorem unBytes_D (s : Str) : unBytes (.sl 1 (s.map fun b => D.int .u8 b.toNat)) = s :=
  unL_map (q := fun e => UInt8.ofNat (unI e).toNat) (p := fun b : UInt8 => D.int .u8 b.toNat) (fun b => by simp [unI]) 1 s
def unSep (d : D) : UInt8 := (unS d).headD 0
/-- the name that a closure holds -/
def unFn : D → Str
  | .fn _ [.ref _ [.str s] _ _] => s
  | _ => []
def unRf : D → Str
  | .ref _ [.str s] _ _ => s
  | _ => []
def lk {α : Type} : List (Nat × α) → Nat → α → α
  | [], _, d => d
  | (a, b) :: r, n, d => bif Nat.beq a n then b else lk r n d
/-- the rows: depth, what must hold, the answer -/
structure Row where
  key : Nat
  pre : List D → Prop
  val : List D → D
structure RowF where
  pre : D → List D → Prop
  val : D → List D → D
  new : D → List D → D
def Row.no : Row := ⟨0, fun _ => False, fun _ => .any⟩
def RowF.no : RowF := ⟨fun _ _ => False, fun _ _ => .any, fun _ _ => .any⟩
def ctxOf (t : List (Nat × Row)) (tf : List (Nat × RowF)) : Ctx where
  pre n := (lk t n .no).pre
  val n := (lk t n .no).val
  tr _ _ _ _ := False
  fp n := (lk tf n .no).pre
  fv n := (lk tf n .no).val
  fs n := (lk tf n .no).new
  lo := 0
def rankOf (t : List (Nat × Row)) : Rank := ⟨fun n => (lk t n .no).key, fun _ _ => 0, fun _ _ _ => 0⟩
theorem under_mono (t : List (Nat × Row)) (tf : List (Nat × RowF)) (R : Rank) (k u n : Nat) : (((ctxOf t tf).under R k u).at n).Mono := by
  intro f ds st K K' _ h
  exact h.2.elim
section
variable [Glob] {P : Program} {ν : List (Nat × Nat)} {eff : List Nat} {Γ : Ctx}
/-- what a function owes to the table -/
def Good (P : Program) (ν : List (Nat × Nat)) (Γ' : Ctx) (eff : List Nat) (pre : List D → Prop) (val : List D → D) (fid : Nat) : Prop :=
  ∀ ds, pre ds → Ok P ν eff Γ' → ∀ (x : X) (args : Array Value), args.size = ds.length → (∀ i, i < ds.length → RD ν x (args.getD i undef) (ds.getD i .any)) → noLocs ds = true →
    (∀ b, x.I b → b < x.w.heap.size) → Glob.gd x → Does P x (fun v x' => PStep x x' ∧ RD ν x' v (val ds)) ((callFunc fid args).run P x.w)
theorem fn_split {fid : Nat} {af : AFunc} (hb : (P.funcs[fid]?).bind (compile P ν eff) = some af) (hn : (P.funcs[fid]?).map (fun f => f.name == "runtime.NumGoroutine") = some false) : ∃ fn, P.funcs[fid]? = some fn ∧ compile P ν eff fn = some af ∧ (fn.name == "runtime.NumGoroutine") = false := by
  cases h : P.funcs[fid]? with
  | none => rw [h] at hb; cases hb
  | some fn =>
    rw [h] at hb hn
    exact ⟨fn, rfl, hb, Option.some.inj hn⟩
theorem good_of {fid : Nat} {af : AFunc} {pre : List D → Prop} {val : List D → D} (hmix : P.follows .mixedOrders = true) (hb : (P.funcs[fid]?).bind (compile P ν eff) = some af) (hn : (P.funcs[fid]?).map (fun f => f.name == "runtime.NumGoroutine") = some false)
    (hw : ∀ ds, pre ds → ds.length = af.np ∧ wpA (Γ.at 0) af.body (Res af (val ds)) (env0 af ds) ⟨0, []⟩) : Good P ν Γ eff pre val fid := by
  intro ds hp hok x args hl hargs hnl himm hgd
  obtain ⟨h1, h2⟩ := hw ds hp
  obtain ⟨fn, hf, hc, hn⟩ := fn_split hb hn
  obtain ⟨body, c1, _⟩ := compile_spec hc
  exact .inr ⟨fid, args, callFunc_enter hf hn (by rw [c1]; rfl) args x.w, fn_pure hok hmix hf hc hl hargs hnl himm hgd h1 h2⟩
def GoodF (P : Program) (ν : List (Nat × Nat)) (Γ' : Ctx) (eff : List Nat) (pre : D → List D → Prop) (val new : D → List D → D) (fid : Nat) : Prop :=
  ∀ d ds, pre d ds → Ok P ν eff Γ' → ∀ (x : X) (f : Nat → Option Blk) (args : Array Value) (l k : Nat), args.size = ds.length + 1 →
      RD ν x (args.getD 0 undef) (.ptr l k 0 0) → (∀ i, i < ds.length → RD ν x (args.getD (i + 1) undef) (ds.getD i .any)) → Sim ν x f → f l = some (.buf k [d]) → d.noLoc = true → noLocs ds = true →
      Does P x (fun v x' => Step x x' ∧ RD ν x' v (val d ds) ∧ Sim ν x' (fun l' => if l' = l then some (.buf k [new d ds]) else f l') ∧ x'.β = x.β) ((callFunc fid args).run P x.w)
theorem goodF_of {fid : Nat} {af : AFunc} {pre : D → List D → Prop} {val new : D → List D → D} (k0 : Nat) (hmix : P.follows .mixedOrders = true) (hb : (P.funcs[fid]?).bind (compile P ν eff) = some af) (hn : (P.funcs[fid]?).map (fun f => f.name == "runtime.NumGoroutine") = some false)
    (hw : ∀ d ds, pre d ds → (ds.length + 1 = af.np ∧ d.cells.length = k0) ∧ wpA (Γ.at 1) af.body (ResF af k0 (val d ds) (new d ds)) (env0 af (.ptr 0 k0 0 0 :: ds)) ⟨1, [(0, .buf k0 [d])]⟩) : GoodF P ν Γ eff pre val new fid := by
  intro d ds hp hok x f args l k hl h0 hargs hs hfl hd hnl
  obtain ⟨⟨h1, hk⟩, h2⟩ := hw d ds hp
  obtain ⟨fn, hf, hc, hn⟩ := fn_split hb hn
  obtain ⟨body, c1, _⟩ := compile_spec hc
  have hkk : k = k0 := by
    generalize args.getD 0 undef = v0 at h0
    cases h0 with
    | ptr _ _ _ _ b base tot at_ hβ hat =>
      obtain ⟨p1, p2, c, T, fr, p3, p4, p5, p6⟩ := (hs.own l _ b base tot hfl hβ).2
      have := (p6 0 (by simp)).1
      simp only [List.getD_cons_zero] at this
      omega
  subst hkk
  exact .inr ⟨fid, args, callFunc_enter hf hn (by rw [c1]; rfl) args x.w, fn_effF hok hmix hf hc hl h0 hargs hs hfl hd hnl h1 h2⟩
end
end Go.Abs
end
section
namespace Go.Abs
open Go
def C336 (Γ : Ctx) : Prop := ∀ (n : Int), (0 ≤ n ∧ n ≤ 9999) → Γ.pre 336 [.int .i64 n] ∧ Γ.val 336 [.int .i64 n] = .str (decN n.toNat)
def C242 (Γ : Ctx) : Prop := ∀ (l : List Str) (sep : Str), (l.length ≤ 1048600) → (sep.length ≤ 4) → (∀ t ∈ l, t.length ≤ 2097200) → Γ.pre 242 [.sl 1 (l.map D.str), .str sep] ∧ Γ.val 242 [.sl 1 (l.map D.str), .str sep] = .str (joinS sep l)
def C124 (Γ : Ctx) : Prop := ∀ (s : Str) (b : UInt8), (s.length ≤ 1048576) → Γ.pre 124 [.str s, .str [b]] ∧ Γ.val 124 [.str s, .str [b]] = .sl 1 ((splitL s b.toNat).map D.str)
def C487 (Γ : Ctx) : Prop := ∀ (s : Str) (b : UInt8), (s.length ≤ 1048576) → Γ.pre 487 [.str s, .str [b]] ∧ Γ.val 487 [.str s, .str [b]] = .tup [.str (cutL s b).1, .str (cutL s b).2.1, .bool (cutL s b).2.2]
def C254 (Γ : Ctx) : Prop := ∀ (s : Str) (p : Str), (s.length ≤ 1048576) → (p.length ≤ 1048576) → Γ.pre 254 [.str s, .str p] ∧ Γ.val 254 [.str s, .str p] = .tup [.str (cutPre s p).1, .bool (cutPre s p).2]
def C491 (Γ : Ctx) : Prop := ∀ (s : Str) (b : UInt8), (s.length ≤ 1048576) → Γ.pre 491 [.str s, .str [b]] ∧ Γ.val 491 [.str s, .str [b]] = .bool (s.contains b)
end Go.Abs
end
section
namespace Go.Abs
theorem q7 {p : Prop} (h : p := by exact rfl) : p := h
theorem q6 {p : Prop} (h : p := by repeat (first | exact RnE.nil | refine RnE.un ?_ | refine RnE.eq (by exact rfl) ?_)) : p := h
theorem q5 {p : Prop} (h : p := by first | exact rfl | exact noLocs_map (fun _ => rfl) _) : p := h
theorem q4 {p : Prop} (h : p := by repeat (first | exact RnE.nil | refine RnE.un ?_ | refine RnE.eq (by exact rfl) ?_ | refine RnE.nl (by exact rfl) (by exact rfl) ?_)) : p := h
theorem q3 {p : Prop} (h : p := by repeat' first | exact trivial | exact rfl | refine And.intro ?_ ?_) : p := h
theorem q2 {p : Prop} (h : p := by repeat' first | exact trivial | exact rfl | exact Nat.le_refl _ | refine And.intro ?_ ?_) : p := h
theorem q1 {p : Prop} (h : p := by repeat (first | exact RnM.nil | refine RnM.idn (by exact rfl) (by exact rfl) (by first | exact rfl | exact noLocs_map (fun _ => rfl) _) ?_ | refine RnM.ide (by exact rfl) (by exact rfl) (by exact rfl) ?_ | refine RnM.idi (by exact rfl) (by exact rfl) (by exact rfl) (by exact rfl) ?_)) : p := h
theorem b0 {p : Prop} [Decidable p] : (decide p = true) = p := decide_eq_true_eq
theorem b1 {p : Prop} [Decidable p] : decide p = false ↔ ¬ p := decide_eq_false_iff_not
theorem b2 (b : Bool) : ((!b) = true) = (b = false) := Bool.not_eq_true' b
theorem b3 (b : Bool) : ((!b) = false) = (b = true) := Bool.not_eq_false' b
theorem b4 (b : Bool) : (¬ (b = false)) = (b = true) := Bool.not_eq_false b
theorem b5 (a b : Bool) : ((a || b) = true) = (a = true ∨ b = true) := Bool.or_eq_true a b
theorem b6 {a b : Bool} : (a || b) = false ↔ a = false ∧ b = false := Bool.or_eq_false_iff
theorem b7 (a b : Bool) : ((a && b) = true) = (a = true ∧ b = true) := Bool.and_eq_true a b
theorem b8 {a b : Bool} : (a && b) = false ↔ a = false ∨ b = false := Bool.and_eq_false_iff
theorem b9 (b : Bool) : (¬ (b = true)) = (b = false) := Bool.not_eq_true b
theorem b10 (b : Bool) : (true && b) = b := Bool.true_and b
theorem b11 (b : Bool) : (b && true) = b := Bool.and_true b
end Go.Abs
end
section
namespace Go.Abs
open Go
/-- linchpin/linchpinref1.whole -/
def ref1_whole : AFunc := { np := 1, ns := 4, res := [⟨1, none⟩], rsh := [[.a]], body := (.seq (.reg false [⟨.mv (.c (.str [])), none⟩] [(1, 0)]) (.seq (.reg false [⟨.mv (.s 0), none⟩, ⟨.bin .rem (.l 0) (.c (.int .u64 10)), none⟩, ⟨.cvi .u8 (.l 1), none⟩, ⟨.bin .add (.c (.int .u8 48)) (.l 2), none⟩, ⟨.bsl 1 (.int .u8 0) 1 [(0, (.l 3))], none⟩, ⟨.b2s (.l 4), none⟩, ⟨.mv (.l 5), none⟩] [(3, 6)]) (.seq (.block 0 (.loop (.seq (.seq (.reg false [⟨.mv (.s 0), none⟩, ⟨.bin .gtr (.l 0) (.c (.int .u64 9)), none⟩] [(2, 1)]) (.cond (.s 2) .skip (.exit 0))) (.block 1 (.seq (.reg false [⟨.mv (.s 0), none⟩, ⟨.bin .quo (.l 0) (.c (.int .u64 10)), none⟩, ⟨.mv (.l 1), none⟩] [(0, 2)]) (.reg false [⟨.mv (.s 0), none⟩, ⟨.bin .rem (.l 0) (.c (.int .u64 10)), none⟩, ⟨.cvi .u8 (.l 1), none⟩, ⟨.bin .add (.c (.int .u8 48)) (.l 2), none⟩, ⟨.bsl 1 (.int .u8 0) 1 [(0, (.l 3))], none⟩, ⟨.b2s (.l 4), none⟩, ⟨.mv (.s 3), none⟩, ⟨.bin .add (.l 5) (.l 6), none⟩, ⟨.mv (.l 7), none⟩] [(3, 8)])))))) (.seq (.reg false [⟨.mv (.s 3), none⟩, ⟨.mv (.l 0), none⟩] [(1, 1)]) .ret)))) }
theorem w882 {Γ : Ctx} (hm : (Γ.at 0).Mono)  (n : Nat) (hp0 : n ≤ 9999) : wpA (Γ.at 0) ref1_whole.body (Res ref1_whole (.str (decN n)) : Ex → List Ent → St → Prop) (env0 ref1_whole [.int .u64 (n : Nat)]) ⟨0, []⟩ := by
  show wpA _ _ _ [⟨true, .int .u64 (n : Nat)⟩, .un, .un, .un] ⟨0, []⟩
  refine wp_regseq ?_; refine r_mv ?_; refine reg_end (env' := [_, ⟨_, (.str _)⟩, _, _]) ?_; refine wp_regseq ?_; refine r_mv ?_
  refine r_rem ((n % 10 : Nat) : Int) (hn := by intro _; omega) (hb := fun _ => rfl) ?_
  refine r_cvi ((n % 10 : Nat) : Int) (hb := fun _ => IntWalk.u8_in _ (by omega)) ?_
  refine r_addK (((dg (n % 10)).toNat : Nat) : Int) (hb := fun _ => by rw [dg_at (by omega)]; exact IntWalk.u8_in _ (by omega)) ?_
  refine r_bsl [.int .u8 _] ?_
  refine r_b2s [dg (n % 10)] (he := fun _ => Els.all q7 rfl) (hs := fun _ => rfl) ?_
  refine r_mv ?_; refine reg_end (env' := [_, _, _, ⟨_, (.str _)⟩]) ?_
  have h0 : decN n = (if n < 10 then [] else decN (n / 10)) ++ [dg (n % 10)] := by
    split
    · rename_i h; rw [decN_lt h, Nat.mod_eq_of_lt h]; rfl
    · rw [decN_ge (by omega)]
  refine wp_for hm (ι := (Nat × Str)) (fun p => [⟨true, .int .u64 (p.1 : Nat)⟩, .un, .un, ⟨true, .str p.2⟩]) (fun p => []) 8 (fun p => p.1 ≤ 9999 ∧ p.2.length ≤ 9999 - p.1 + 1 ∧ decN n = (if p.1 < 10 then [] else decN (p.1 / 10)) ++ p.2) (fun p => p.1) (n, [dg (n % 10)]) ⟨hp0, by simp, h0⟩ (Ghost.to [] q7 q7 q4 q1) ?_
  rintro ⟨k, s⟩ ⟨hk, hs, hr⟩
  dsimp only at hk hs hr ⊢
  refine wp_assoc ?_; refine wp_regseq ?_; refine r_mv ?_; refine r_gtrI ?_; refine reg_end (env' := [_, _, ⟨_, (.bool _)⟩, _]) ?_
  refine wp_condseq (fun hc0 => ?_) (fun hc0 => ?_)
  · try simp only [b0, b1, b2, b3, b4, b5, b6, b7, b8, b9, b10, b11] at hc0
    refine wp_skipseq ?_
    refine wp_blockL ?_ hm
    refine wp_regseq ?_; refine r_mv ?_
    refine r_quo ((k / 10 : Nat) : Int) (hn := by intro _; omega) (hb := fun _ => by rw [show ((k : Int).tdiv 10) = ((k / 10 : Nat) : Int) from rfl, IntKind.wrap_u64]; omega) ?_
    refine r_mv ?_; refine reg_end (env' := [⟨_, (.int _ _)⟩, _, _, _]) ?_; refine wp_reg ?_; refine r_mv ?_
    refine r_rem (((k / 10) % 10 : Nat) : Int) (hn := by intro _; omega) (hb := fun _ => rfl) ?_
    refine r_cvi (((k / 10) % 10 : Nat) : Int) (hb := fun _ => IntWalk.u8_in _ (by omega)) ?_
    refine r_addK (((dg ((k / 10) % 10)).toNat : Nat) : Int) (hb := fun _ => by rw [dg_at (by omega)]; exact IntWalk.u8_in _ (by omega)) ?_
    refine r_bsl [.int .u8 _] ?_
    refine r_b2s [dg ((k / 10) % 10)] (he := fun _ => Els.all q7 rfl) (hs := fun _ => rfl) ?_
    refine r_mv ?_
    refine r_addS (hb := fun _ => by simp; omega) ?_
    refine r_mv ?_; refine reg_fin (env' := [_, _, _, ⟨_, (.str _)⟩]) ?_
    refine BQ0.normal ?_
    refine LQ.normal ?_
    have h1 : decN n = (if k / 10 < 10 then [] else decN (k / 10 / 10)) ++ ([dg (k / 10 % 10)] ++ s) := by
      rw [hr, if_neg (by omega)]
      split
      · rename_i h; rw [decN_lt h, Nat.mod_eq_of_lt h]; rfl
      · rw [decN_ge (by omega), List.append_assoc]
    exact ⟨(k / 10, [dg (k / 10 % 10)] ++ s), ⟨by dsimp only; omega, by simp; omega, h1⟩, by dsimp only; omega, (Ghost.to [] q7 q7 q4 q1)⟩
  · try simp only [b0, b1, b2, b3, b4, b5, b6, b7, b8, b9, b10, b11] at hc0
    refine wp_exitseq ?_; refine LQ.out ?_; refine wp_regseq ?_; refine r_mv ?_; refine r_mv ?_; refine reg_end (env' := [_, ⟨_, (.str _)⟩, _, _]) ?_; refine wp_ret ?_
    refine res_of trivial q2 q3 (Eq.trans q7 (congrArg D.str ?_))
    rw [hr, if_pos (by omega)]; rfl
def C882 (Γ : Ctx) : Prop := ∀ (n : Nat), (n ≤ 9999) → Γ.pre 882 [.int .u64 (n : Nat)] ∧ Γ.val 882 [.int .u64 (n : Nat)] = .str (decN n)
/-- linchpin/linchpinref1.Digits -/
def ref1_Digits : AFunc := { np := 1, ns := 3, res := [⟨1, none⟩], rsh := [[.a]], body := (.seq (.reg false [⟨.mv (.c (.str [])), none⟩] [(1, 0)]) (.seq (.seq (.reg false [⟨.mv (.s 0), none⟩, ⟨.bin .lss (.l 0) (.c (.int .i64 0)), none⟩] [(2, 1)]) (.cond (.s 2) (.seq (.reg false [⟨.mv (.s 0), none⟩, ⟨.bin .add (.l 0) (.c (.int .i64 1)), none⟩, ⟨.un .neg (.l 1), none⟩, ⟨.cvi .u64 (.l 2), none⟩, ⟨.bin .add (.l 3) (.c (.int .u64 1)), none⟩, ⟨.call 882 [(.l 4)] [[.a]], none⟩, ⟨.bin .add (.c (.str [45])) (.l 5), none⟩, ⟨.mv (.l 6), none⟩] [(1, 7)]) .ret) .skip)) (.seq (.reg false [⟨.mv (.s 0), none⟩, ⟨.cvi .u64 (.l 0), none⟩, ⟨.call 882 [(.l 1)] [[.a]], none⟩, ⟨.mv (.l 2), none⟩] [(1, 3)]) .ret))) }
theorem w734 {Γ : Ctx} (hm : (Γ.at 0).Mono) (h882 : C882 (Γ.at 0)) (n : Int) (hp0 : 0 ≤ n ∧ n ≤ 9999) : wpA (Γ.at 0) ref1_Digits.body (Res ref1_Digits (.str (decN n.toNat)) : Ex → List Ent → St → Prop) (env0 ref1_Digits [.int .i64 n]) ⟨0, []⟩ := by
  show wpA _ _ _ [⟨true, .int .i64 n⟩, .un, .un] ⟨0, []⟩
  refine wp_regseq ?_; refine r_mv ?_; refine reg_end (env' := [_, ⟨_, (.str _)⟩, _]) ?_; refine wp_assoc ?_; refine wp_regseq ?_; refine r_mv ?_; refine r_lssI ?_; refine reg_end (env' := [_, _, ⟨_, (.bool _)⟩]) ?_
  refine wp_condseq (fun hc0 => ?_) (fun hc0 => ?_)
  · try simp only [b0, b1, b2, b3, b4, b5, b6, b7, b8, b9, b10, b11] at hc0
    omega
  · try simp only [b0, b1, b2, b3, b4, b5, b6, b7, b8, b9, b10, b11] at hc0
    refine wp_skipseq ?_; refine wp_regseq ?_
    obtain ⟨k, rfl⟩ : ∃ k : Nat, n = k := ⟨n.toNat, by omega⟩
    refine r_mv ?_
    refine r_cvi (k : Int) (hb := fun _ => by rw [IntKind.wrap_u64]; omega) ?_
    refine r_call (hc := h882 _ ?_) ?_; rotate_left; first | assumption | omega
    refine r_mv ?_; refine reg_end (env' := [_, ⟨_, (.str _)⟩, _]) ?_; refine wp_ret ?_
    refine res_of trivial q2 q3 (Eq.trans q7 (congrArg D.str ?_))
    rfl
def C734 (Γ : Ctx) : Prop := ∀ (n : Int), (0 ≤ n ∧ n ≤ 9999) → Γ.pre 734 [.int .i64 n] ∧ Γ.val 734 [.int .i64 n] = .str (decN n.toNat)
/-- linchpin/linchpinref1.Split -/
def ref1_Split : AFunc := { np := 2, ns := 8, res := [⟨2, none⟩], rsh := [[.sl 1 [.a]]], body := (.seq (.reg false [⟨.mv (.c (.nils)), none⟩] [(2, 0)]) (.seq (.reg false [⟨.mv (.c (.nils)), none⟩] [(6, 0)]) (.seq (.reg false [⟨.mv (.c (.int .i64 0)), none⟩] [(7, 0)]) (.seq (.seq (.reg false [⟨.mv (.c (.int .i64 0)), none⟩] [(3, 0)]) (.block 0 (.loop (.seq (.seq (.reg false [⟨.mv (.s 3), none⟩, ⟨.mv (.s 0), none⟩, ⟨.lenS (.l 1), none⟩, ⟨.bin .lss (.l 0) (.l 2), none⟩] [(4, 3)]) (.cond (.s 4) .skip (.exit 0))) (.seq (.block 1 (.seq (.reg false [⟨.mv (.s 0), none⟩, ⟨.mv (.s 3), none⟩, ⟨.ixS (.l 0) (.l 1), none⟩, ⟨.mv (.s 1), none⟩, ⟨.bin .eql (.l 2) (.l 3), none⟩] [(5, 4)]) (.cond (.s 5) (.seq (.reg false [⟨.mv (.s 6), none⟩, ⟨.mv (.s 0), none⟩, ⟨.mv (.s 7), none⟩, ⟨.mv (.s 3), none⟩, ⟨.slS (.l 1) (some (.l 2)) (some (.l 3)), none⟩, ⟨.bsl 1 (.str []) 1 [(0, (.l 4))], none⟩, ⟨.app 1 (.l 0) (.l 5), none⟩, ⟨.mv (.l 6), none⟩] [(6, 7)]) (.reg false [⟨.mv (.s 3), none⟩, ⟨.bin .add (.l 0) (.c (.int .i64 1)), none⟩, ⟨.mv (.l 1), none⟩] [(7, 2)])) .skip))) (.reg false [⟨.mv (.s 3), none⟩, ⟨.bin .add (.l 0) (.c (.int .i64 1)), none⟩, ⟨.mv (.l 1), none⟩] [(3, 2)])))))) (.seq (.reg false [⟨.mv (.s 6), none⟩, ⟨.mv (.s 0), none⟩, ⟨.mv (.s 7), none⟩, ⟨.slS (.l 1) (some (.l 2)) none, none⟩, ⟨.bsl 1 (.str []) 1 [(0, (.l 3))], none⟩, ⟨.app 1 (.l 0) (.l 4), none⟩, ⟨.mv (.l 5), none⟩] [(2, 6)]) .ret))))) }
theorem w470 {Γ : Ctx} (hm : (Γ.at 0).Mono)  (s : Str) (b : Int) (hp0 : s.length ≤ 1048576) : wpA (Γ.at 0) ref1_Split.body (Res ref1_Split (.sl 1 ((splitL s b).map D.str)) : Ex → List Ent → St → Prop) (env0 ref1_Split [.str s, .int .u8 b]) ⟨0, []⟩ := by
  show wpA _ _ _ [⟨true, .str s⟩, ⟨true, .int .u8 b⟩, .un, .un, .un, .un, .un, .un] ⟨0, []⟩
  refine wp_regseq ?_; refine r_mv ?_; refine reg_end (env' := [_, _, ⟨_, .nils⟩, _, _, _, _, _]) ?_; refine wp_regseq ?_; refine r_mv ?_; refine reg_end (env' := [_, _, _, _, _, _, ⟨_, .nils⟩, _]) ?_; refine wp_regseq ?_; refine r_mv ?_; refine reg_end (env' := [_, _, _, _, _, _, _, ⟨_, (.int _ _)⟩]) ?_; refine wp_assoc ?_; refine wp_regseq ?_; refine r_mv ?_; refine reg_end (env' := [_, _, _, ⟨_, (.int _ _)⟩, _, _, _, _]) ?_
  refine wp_for hm (ι := (Nat × Nat × List Str)) (fun p : Nat × Nat × List Str => [⟨true, .str s⟩, ⟨true, .int .u8 b⟩, .un, ⟨true, .int .i64 (p.1 : Nat)⟩, .un, .un, ⟨true, .own 0 1 0 p.2.2.length⟩, ⟨true, .int .i64 (p.2.1 : Nat)⟩]) (fun p => [(0, .buf 1 (p.2.2.map D.str))]) 4 (fun p => p.1 ≤ s.length ∧ p.2.1 ≤ p.1 ∧ p.2.2.length ≤ p.1 ∧ splitL s b = p.2.2 ++ splitX b (s.drop p.1) ((s.take p.1).drop p.2.1)) (fun p => s.length - p.1) (0, 0, []) ⟨by simp, by simp, by simp, rfl⟩ (Ghost.to [] q7 q7 (by repeat (first | exact RnE.nil | refine RnE.un ?_ | refine RnE.eq q7 ?_ | refine RnE.nl q7 q7 ?_ | refine RnE.ni (Or.inr ⟨0, 1, 0, rfl⟩) ?_)) (by repeat (first | exact RnM.nil | refine RnM.mt q7 q7 q7 q7 ?_))) ?_
  rintro ⟨i, fr, acc⟩ ⟨hi, hf, ha, hr⟩
  dsimp only at hi hf ha hr ⊢
  refine wp_assoc ?_; refine wp_regseq ?_; refine r_mv ?_; refine r_mv ?_
  refine r_lenS fun hlR4_2 => ?_; replace hlR4_2 := hlR4_2 rfl rfl
  refine r_lssI ?_; refine reg_end (env' := [_, _, _, _, ⟨_, (.bool _)⟩, _, _, _]) ?_
  refine wp_condseq (fun hc0 => ?_) (fun hc0 => ?_)
  · try simp only [b0, b1, b2, b3, b4, b5, b6, b7, b8, b9, b10, b11] at hc0
    refine wp_skipseq ?_
    refine wp_blockseq ?_ hm
    refine wp_regseq ?_; refine r_mv ?_; refine r_mv ?_
    first | refine r_ixS _ ?_ | refine r_ixST ?_
    refine r_mv ?_; refine r_eqlI ?_; refine reg_end (env' := [_, _, _, _, _, ⟨_, (.bool _)⟩, _, _]) ?_
    refine wp_cond (fun hc1 => ?_) (fun hc1 => ?_)
    · try simp only [b0, b1, b2, b3, b4, b5, b6, b7, b8, b9, b10, b11] at hc1
      refine wp_regseq ?_; refine r_mv ?_; refine r_mv ?_; refine r_mv ?_; refine r_mv ?_; refine r_slS_lh _ _ ?_; refine r_bsl [(.str _)] ?_; refine r_app1 ?_; refine r_mv ?_; refine reg_end (env' := [_, _, _, _, _, _, ⟨_, (.own _ _ _ _)⟩, _]) ?_; refine wp_reg ?_; refine r_mv ?_; refine r_add64 ?_; refine r_mv ?_; refine reg_fin (env' := [_, _, _, _, _, _, _, ⟨_, (.int _ _)⟩]) ?_; refine BQ.normal ?_; refine wp_reg ?_; refine r_mv ?_; refine r_add64 ?_; refine r_mv ?_; refine reg_fin (env' := [_, _, _, ⟨_, (.int _ _)⟩, _, _, _, _]) ?_; refine LQ.normal ?_
      exact ⟨(i + 1, i + 1, acc ++ [(s.take i).drop fr]), ⟨by dsimp only; omega, by dsimp only; omega, by simp; omega, by rw [hr, splitX_eq (by omega) hc1]; simp⟩, by dsimp only; omega, (Ghost.to [(19, 0)] q7 q7 q6 (by refine RnM.nl 19 q7 q7 q7 q5 ?_; exact RnM.nil))⟩
    · simp only [decide_eq_false_iff_not] at hc1
      refine wp_skip ?_; refine BQ.normal ?_; refine wp_reg ?_; refine r_mv ?_; refine r_add64 ?_; refine r_mv ?_; refine reg_fin (env' := [_, _, _, ⟨_, (.int _ _)⟩, _, _, _, _]) ?_; refine LQ.normal ?_
      exact ⟨(i + 1, fr, acc), ⟨by dsimp only; omega, by dsimp only; omega, by dsimp only; omega, by rw [hr, splitX_ne (by omega) (by omega) hc1]⟩, by dsimp only; omega, (Ghost.to [(0, 0)] q7 q7 q6 (by refine RnM.nl 0 q7 q7 q7 q5 ?_; exact RnM.nil))⟩
  · try simp only [b0, b1, b2, b3, b4, b5, b6, b7, b8, b9, b10, b11] at hc0
    refine wp_exitseq ?_; refine LQ.out ?_; refine wp_regseq ?_; refine r_mv ?_; refine r_mv ?_; refine r_mv ?_; refine r_slS_lo _ ?_; refine r_bsl [(.str _)] ?_; refine r_app1 ?_; refine r_mv ?_; refine reg_end (env' := [_, _, ⟨_, (.own _ _ _ _)⟩, _, _, _, _, _]) ?_; refine wp_fz 13 ?_; refine wp_ret ?_
    refine res_of trivial q2 q3 (Eq.trans q7 (?_))
    have hs : splitL s b = acc ++ [s.drop fr] := by rw [hr, splitX_end (by omega)]
    rw [hs]
    exact rfl
def C470 (Γ : Ctx) : Prop := ∀ (s : Str) (b : Int), (s.length ≤ 1048576) → Γ.pre 470 [.str s, .int .u8 b] ∧ Γ.val 470 [.str s, .int .u8 b] = .sl 1 ((splitL s b).map D.str)
end Go.Abs
end
section
namespace Go.Abs
open Go
/-- linchpin/linchpinref1.low -/
def ref1_low : AFunc := { np := 1, ns := 2, res := [⟨1, none⟩], rsh := [[.a]], body := (.seq (.reg false [⟨.mv (.c (.bool false)), none⟩] [(1, 0)]) (.seq (.reg false [⟨.mv (.s 0), none⟩, ⟨.bin .geq (.l 0) (.c (.int .u8 97)), none⟩, ⟨.mv (.l 1), none⟩, ⟨.mv (.s 0), some (2, true)⟩, ⟨.bin .leq (.l 3) (.c (.int .u8 122)), some (2, true)⟩, ⟨.pick (.l 2) (.l 4) (.c (.bool false)), none⟩, ⟨.mv (.l 5), none⟩] [(1, 6)]) .ret)) }
theorem w453 {Γ : Ctx} (hm : (Γ.at 0).Mono)  (c : Int)  : wpA (Γ.at 0) ref1_low.body (Res ref1_low (.bool (lowB c)) : Ex → List Ent → St → Prop) (env0 ref1_low [.int .u8 c]) ⟨0, []⟩ := by
  show wpA _ _ _ [⟨true, .int .u8 c⟩, .un] ⟨0, []⟩
  refine wp_regseq ?_; refine r_mv ?_; refine reg_end (env' := [_, ⟨_, (.bool _)⟩]) ?_; refine wp_regseq ?_; refine r_mv ?_; refine r_geqI ?_; refine r_mv ?_; refine r_mv ?_; refine r_leqI ?_; refine r_and ?_; refine r_mv ?_; refine reg_end (env' := [_, ⟨_, (.bool _)⟩]) ?_; refine wp_ret ?_
  refine res_of trivial q2 q3 (Eq.trans q7 (congrArg D.bool ?_))
  rfl
def C453 (Γ : Ctx) : Prop := ∀ (c : Int), Γ.pre 453 [.int .u8 c] ∧ Γ.val 453 [.int .u8 c] = .bool (lowB c)
/-- linchpin/linchpinref1.digit -/
def ref1_digit : AFunc := { np := 1, ns := 2, res := [⟨1, none⟩], rsh := [[.a]], body := (.seq (.reg false [⟨.mv (.c (.bool false)), none⟩] [(1, 0)]) (.seq (.reg false [⟨.mv (.s 0), none⟩, ⟨.bin .geq (.l 0) (.c (.int .u8 48)), none⟩, ⟨.mv (.l 1), none⟩, ⟨.mv (.s 0), some (2, true)⟩, ⟨.bin .leq (.l 3) (.c (.int .u8 57)), some (2, true)⟩, ⟨.pick (.l 2) (.l 4) (.c (.bool false)), none⟩, ⟨.mv (.l 5), none⟩] [(1, 6)]) .ret)) }
theorem w454 {Γ : Ctx} (hm : (Γ.at 0).Mono)  (c : Int)  : wpA (Γ.at 0) ref1_digit.body (Res ref1_digit (.bool (digitB c)) : Ex → List Ent → St → Prop) (env0 ref1_digit [.int .u8 c]) ⟨0, []⟩ := by
  show wpA _ _ _ [⟨true, .int .u8 c⟩, .un] ⟨0, []⟩
  refine wp_regseq ?_; refine r_mv ?_; refine reg_end (env' := [_, ⟨_, (.bool _)⟩]) ?_; refine wp_regseq ?_; refine r_mv ?_; refine r_geqI ?_; refine r_mv ?_; refine r_mv ?_; refine r_leqI ?_; refine r_and ?_; refine r_mv ?_; refine reg_end (env' := [_, ⟨_, (.bool _)⟩]) ?_; refine wp_ret ?_
  refine res_of trivial q2 q3 (Eq.trans q7 (congrArg D.bool ?_))
  rfl
def C454 (Γ : Ctx) : Prop := ∀ (c : Int), Γ.pre 454 [.int .u8 c] ∧ Γ.val 454 [.int .u8 c] = .bool (digitB c)
/-- linchpin/linchpinref1.Word -/
def ref1_Word : AFunc := { np := 1, ns := 6, res := [⟨1, none⟩], rsh := [[.a]], body := (.seq (.reg false [⟨.mv (.c (.bool false)), none⟩] [(1, 0)]) (.seq (.seq (.reg false [⟨.mv (.s 0), none⟩, ⟨.lenS (.l 0), none⟩, ⟨.bin .lss (.l 1) (.c (.int .i64 1)), none⟩, ⟨.mv (.l 2), none⟩, ⟨.mv (.s 0), some (3, false)⟩, ⟨.lenS (.l 4), some (3, false)⟩, ⟨.bin .gtr (.l 5) (.c (.int .i64 12)), some (3, false)⟩, ⟨.pick (.l 3) (.c (.bool true)) (.l 6), none⟩] [(2, 7)]) (.cond (.s 2) (.seq (.reg false [⟨.mv (.c (.bool false)), none⟩] [(1, 0)]) .ret) .skip)) (.seq (.seq (.reg false [⟨.mv (.c (.int .i64 0)), none⟩] [(3, 0)]) (.block 0 (.loop (.seq (.seq (.reg false [⟨.mv (.s 3), none⟩, ⟨.mv (.s 0), none⟩, ⟨.lenS (.l 1), none⟩, ⟨.bin .lss (.l 0) (.l 2), none⟩] [(4, 3)]) (.cond (.s 4) .skip (.exit 0))) (.seq (.block 1 (.seq (.reg false [⟨.mv (.s 0), none⟩, ⟨.mv (.s 3), none⟩, ⟨.ixS (.l 0) (.l 1), none⟩, ⟨.call 453 [(.l 2)] [[.a]], none⟩, ⟨.un .not (.l 3), none⟩, ⟨.mv (.l 4), none⟩, ⟨.mv (.s 0), some (5, true)⟩, ⟨.mv (.s 3), some (5, true)⟩, ⟨.ixS (.l 6) (.l 7), some (5, true)⟩, ⟨.call 454 [(.l 8)] [[.a]], some (5, true)⟩, ⟨.un .not (.l 9), some (5, true)⟩, ⟨.pick (.l 5) (.l 10) (.c (.bool false)), none⟩, ⟨.mv (.l 11), none⟩, ⟨.mv (.s 0), some (12, true)⟩, ⟨.mv (.s 3), some (12, true)⟩, ⟨.ixS (.l 13) (.l 14), some (12, true)⟩, ⟨.bin .neq (.l 15) (.c (.int .u8 95)), some (12, true)⟩, ⟨.pick (.l 12) (.l 16) (.c (.bool false)), none⟩] [(5, 17)]) (.cond (.s 5) (.seq (.reg false [⟨.mv (.c (.bool false)), none⟩] [(1, 0)]) .ret) .skip))) (.reg false [⟨.mv (.s 3), none⟩, ⟨.bin .add (.l 0) (.c (.int .i64 1)), none⟩, ⟨.mv (.l 1), none⟩] [(3, 2)])))))) (.seq (.reg false [⟨.mv (.c (.bool true)), none⟩] [(1, 0)]) .ret)))) }
theorem w357 {Γ : Ctx} (hm : (Γ.at 0).Mono) (h453 : C453 (Γ.at 0)) (h454 : C454 (Γ.at 0)) (s : Str)  : wpA (Γ.at 0) ref1_Word.body (Res ref1_Word (.bool (wordB s)) : Ex → List Ent → St → Prop) (env0 ref1_Word [.str s]) ⟨0, []⟩ := by
  show wpA _ _ _ [⟨true, .str s⟩, .un, .un, .un, .un, .un] ⟨0, []⟩
  refine wp_regseq ?_; refine r_mv ?_; refine reg_end (env' := [_, ⟨_, (.bool _)⟩, _, _, _, _]) ?_; refine wp_assoc ?_; refine wp_regseq ?_; refine r_mv ?_
  refine r_lenS fun hlR1_1 => ?_; replace hlR1_1 := hlR1_1 rfl rfl
  refine r_lssI ?_; refine r_mv ?_; refine r_mv ?_
  refine r_lenS fun _ => ?_
  refine r_gtrI ?_; refine r_or ?_; refine reg_end (env' := [_, _, ⟨_, (.bool _)⟩, _, _, _]) ?_
  refine wp_condseq (fun hc0 => ?_) (fun hc0 => ?_)
  · try simp only [b0, b1, b2, b3, b4, b5, b6, b7, b8, b9, b10, b11] at hc0
    refine wp_assoc ?_; refine wp_regseq ?_; refine r_mv ?_; refine reg_end (env' := [_, ⟨_, (.bool _)⟩, _, _, _, _]) ?_; refine wp_retseq ?_
    refine res_of trivial q2 q3 (Eq.trans q7 (congrArg D.bool ?_))
    symm; simp only [wordB, Bool.and_eq_false_iff, decide_eq_false_iff_not]; exact Or.inl (by omega)
  · try simp only [b0, b1, b2, b3, b4, b5, b6, b7, b8, b9, b10, b11] at hc0
    refine wp_skipseq ?_; refine wp_assoc ?_; refine wp_regseq ?_; refine r_mv ?_; refine reg_end (env' := [_, _, _, ⟨_, (.int _ _)⟩, _, _]) ?_
    refine wp_for hm (ι := Nat) (fun i => [⟨true, .str s⟩, .un, .un, ⟨true, .int .i64 (i : Nat)⟩, .un, .un]) (fun i => []) 10 (fun i => i ≤ s.length ∧ wordB s = allF (fun i => wch (at8 s i)) i s.length) (fun i => s.length - i) 0 ⟨by omega, by simp only [wordB]; rw [decide_eq_true (by omega), decide_eq_true (by omega)]; rfl⟩ (Ghost.to [] q7 q7 q4 q1) ?_
    rintro i ⟨hi, hr⟩
    refine wp_assoc ?_; refine wp_regseq ?_; refine r_mv ?_; refine r_mv ?_
    refine r_lenS fun hlR4_2 => ?_; replace hlR4_2 := hlR4_2 rfl rfl
    refine r_lssI ?_; refine reg_end (env' := [_, _, _, _, ⟨_, (.bool _)⟩, _]) ?_
    refine wp_condseq (fun hc1 => ?_) (fun hc1 => ?_)
    · try simp only [b0, b1, b2, b3, b4, b5, b6, b7, b8, b9, b10, b11] at hc1
      refine wp_skipseq ?_
      refine wp_blockseq ?_ hm
      refine wp_regseq ?_; refine r_mv ?_; refine r_mv ?_
      first | refine r_ixS _ ?_ | refine r_ixST ?_
      refine r_call (hc := h453 _) ?_; refine r_not ?_; refine r_mv ?_; refine r_mv ?_; refine r_mv ?_
      first | refine r_ixS _ ?_ | refine r_ixST ?_
      refine r_call (hc := h454 _) ?_; refine r_not ?_; refine r_and ?_; refine r_mv ?_; refine r_mv ?_; refine r_mv ?_
      first | refine r_ixS _ ?_ | refine r_ixST ?_
      refine r_neqI ?_; refine r_and ?_; refine reg_end (env' := [_, _, _, _, _, ⟨_, (.bool _)⟩]) ?_
      refine wp_cond (fun hc2 => ?_) (fun hc2 => ?_)
      · try simp only [b0, b1, b2, b3, b4, b5, b6, b7, b8, b9, b10, b11] at hc2
        refine wp_regseq ?_; refine r_mv ?_; refine reg_end (env' := [_, ⟨_, (.bool _)⟩, _, _, _, _]) ?_; refine wp_ret ?_; refine BQ.ret ?_; refine LQ.ret ?_
        refine res_of trivial q2 q3 (Eq.trans q7 (congrArg D.bool ?_))
        rw [hr, allF_lt (by omega)]; simp [wch, hc2]
      · try simp only [b0, b1, b2, b3, b4, b5, b6, b7, b8, b9, b10, b11] at hc2
        refine wp_skip ?_; refine BQ.normal ?_; refine wp_reg ?_; refine r_mv ?_; refine r_add64 ?_; refine r_mv ?_; refine reg_fin (env' := [_, _, _, ⟨_, (.int _ _)⟩, _, _]) ?_; refine LQ.normal ?_
        exact ⟨i + 1, ⟨by omega, by rw [hr, allF_lt (by omega)]; simp [wch, hc2]⟩, by omega, (Ghost.to [] q7 q7 q4 q1)⟩
    · try simp only [b0, b1, b2, b3, b4, b5, b6, b7, b8, b9, b10, b11] at hc1
      refine wp_exitseq ?_; refine LQ.out ?_; refine wp_regseq ?_; refine r_mv ?_; refine reg_end (env' := [_, ⟨_, (.bool _)⟩, _, _, _, _]) ?_; refine wp_ret ?_
      refine res_of trivial q2 q3 (Eq.trans q7 (congrArg D.bool ?_))
      rw [hr, allF_ge (by omega)]
def C357 (Γ : Ctx) : Prop := ∀ (s : Str), Γ.pre 357 [.str s] ∧ Γ.val 357 [.str s] = .bool (wordB s)
/-- linchpin/linchpinref1.Name -/
def ref1_Name : AFunc := { np := 1, ns := 6, res := [⟨1, none⟩], rsh := [[.a]], body := (.seq (.reg false [⟨.mv (.c (.bool false)), none⟩] [(1, 0)]) (.seq (.seq (.reg false [⟨.mv (.s 0), none⟩, ⟨.lenS (.l 0), none⟩, ⟨.bin .lss (.l 1) (.c (.int .i64 1)), none⟩, ⟨.mv (.l 2), none⟩, ⟨.mv (.s 0), some (3, false)⟩, ⟨.lenS (.l 4), some (3, false)⟩, ⟨.bin .gtr (.l 5) (.c (.int .i64 16)), some (3, false)⟩, ⟨.pick (.l 3) (.c (.bool true)) (.l 6), none⟩, ⟨.mv (.l 7), none⟩, ⟨.mv (.s 0), some (8, false)⟩, ⟨.ixS (.l 9) (.c (.int .i64 0)), some (8, false)⟩, ⟨.call 453 [(.l 10)] [[.a]], some (8, false)⟩, ⟨.un .not (.l 11), some (8, false)⟩, ⟨.pick (.l 8) (.c (.bool true)) (.l 12), none⟩, ⟨.mv (.l 13), none⟩, ⟨.mv (.s 0), some (14, false)⟩, ⟨.mv (.s 0), some (14, false)⟩, ⟨.lenS (.l 16), some (14, false)⟩, ⟨.bin .sub (.l 17) (.c (.int .i64 1)), some (14, false)⟩, ⟨.ixS (.l 15) (.l 18), some (14, false)⟩, ⟨.bin .eql (.l 19) (.c (.int .u8 45)), some (14, false)⟩, ⟨.pick (.l 14) (.c (.bool true)) (.l 20), none⟩] [(2, 21)]) (.cond (.s 2) (.seq (.reg false [⟨.mv (.c (.bool false)), none⟩] [(1, 0)]) .ret) .skip)) (.seq (.seq (.reg false [⟨.mv (.c (.int .i64 1)), none⟩] [(3, 0)]) (.block 0 (.loop (.seq (.seq (.reg false [⟨.mv (.s 3), none⟩, ⟨.mv (.s 0), none⟩, ⟨.lenS (.l 1), none⟩, ⟨.bin .lss (.l 0) (.l 2), none⟩] [(4, 3)]) (.cond (.s 4) .skip (.exit 0))) (.seq (.block 1 (.seq (.reg false [⟨.mv (.s 0), none⟩, ⟨.mv (.s 3), none⟩, ⟨.ixS (.l 0) (.l 1), none⟩, ⟨.call 453 [(.l 2)] [[.a]], none⟩, ⟨.un .not (.l 3), none⟩, ⟨.mv (.l 4), none⟩, ⟨.mv (.s 0), some (5, true)⟩, ⟨.mv (.s 3), some (5, true)⟩, ⟨.ixS (.l 6) (.l 7), some (5, true)⟩, ⟨.call 454 [(.l 8)] [[.a]], some (5, true)⟩, ⟨.un .not (.l 9), some (5, true)⟩, ⟨.pick (.l 5) (.l 10) (.c (.bool false)), none⟩, ⟨.mv (.l 11), none⟩, ⟨.mv (.s 0), some (12, true)⟩, ⟨.mv (.s 3), some (12, true)⟩, ⟨.ixS (.l 13) (.l 14), some (12, true)⟩, ⟨.bin .neq (.l 15) (.c (.int .u8 45)), some (12, true)⟩, ⟨.pick (.l 12) (.l 16) (.c (.bool false)), none⟩, ⟨.mv (.l 17), none⟩, ⟨.mv (.s 0), some (18, false)⟩, ⟨.mv (.s 3), some (18, false)⟩, ⟨.ixS (.l 19) (.l 20), some (18, false)⟩, ⟨.bin .eql (.l 21) (.c (.int .u8 45)), some (18, false)⟩, ⟨.mv (.l 22), some (18, false)⟩, ⟨.mv (.s 0), some (23, true)⟩, ⟨.mv (.s 3), some (23, true)⟩, ⟨.bin .sub (.l 25) (.c (.int .i64 1)), some (23, true)⟩, ⟨.ixS (.l 24) (.l 26), some (23, true)⟩, ⟨.bin .eql (.l 27) (.c (.int .u8 45)), some (23, true)⟩, ⟨.pick (.l 23) (.l 28) (.c (.bool false)), some (18, false)⟩, ⟨.pick (.l 18) (.c (.bool true)) (.l 29), none⟩] [(5, 30)]) (.cond (.s 5) (.seq (.reg false [⟨.mv (.c (.bool false)), none⟩] [(1, 0)]) .ret) .skip))) (.reg false [⟨.mv (.s 3), none⟩, ⟨.bin .add (.l 0) (.c (.int .i64 1)), none⟩, ⟨.mv (.l 1), none⟩] [(3, 2)])))))) (.seq (.reg false [⟨.mv (.c (.bool true)), none⟩] [(1, 0)]) .ret)))) }
theorem w216 {Γ : Ctx} (hm : (Γ.at 0).Mono) (h453 : C453 (Γ.at 0)) (h454 : C454 (Γ.at 0)) (s : Str)  : wpA (Γ.at 0) ref1_Name.body (Res ref1_Name (.bool (nameB s)) : Ex → List Ent → St → Prop) (env0 ref1_Name [.str s]) ⟨0, []⟩ := by
  show wpA _ _ _ [⟨true, .str s⟩, .un, .un, .un, .un, .un] ⟨0, []⟩
  refine wp_regseq ?_; refine r_mv ?_; refine reg_end (env' := [_, ⟨_, (.bool _)⟩, _, _, _, _]) ?_; refine wp_assoc ?_; refine wp_regseq ?_; refine r_mv ?_
  refine r_lenS fun hlR1_1 => ?_; replace hlR1_1 := hlR1_1 rfl rfl
  refine r_lssI ?_; refine r_mv ?_; refine r_mv ?_
  refine r_lenS fun _ => ?_
  refine r_gtrI ?_; refine r_or ?_; refine r_mv ?_; refine r_mv ?_; refine r_ixS 0 ?_; refine r_call (hc := h453 _) ?_; refine r_not ?_; refine r_or ?_; refine r_mv ?_; refine r_mv ?_; refine r_mv ?_
  refine r_lenS fun _ => ?_
  refine r_sub64 ?_; refine r_ixS (s.length - 1) ?_; refine r_eqlI ?_; refine r_or ?_; refine reg_end (env' := [_, _, ⟨_, (.bool _)⟩, _, _, _]) ?_
  refine wp_condseq (fun hc0 => ?_) (fun hc0 => ?_)
  · try simp only [b0, b1, b2, b3, b4, b5, b6, b7, b8, b9, b10, b11] at hc0
    refine wp_assoc ?_; refine wp_regseq ?_; refine r_mv ?_; refine reg_end (env' := [_, ⟨_, (.bool _)⟩, _, _, _, _]) ?_; refine wp_retseq ?_
    refine res_of trivial q2 q3 (Eq.trans q7 (congrArg D.bool ?_))
    symm; simp only [nameB]; rcases hc0 with (h | h) | h
    · rcases h with h | h <;> simp <;> omega
    · simp [h]
    · simp [h]
  · try simp only [b0, b1, b2, b3, b4, b5, b6, b7, b8, b9, b10, b11] at hc0
    refine wp_skipseq ?_; refine wp_assoc ?_; refine wp_regseq ?_; refine r_mv ?_; refine reg_end (env' := [_, _, _, ⟨_, (.int _ _)⟩, _, _]) ?_
    refine wp_for hm (ι := Nat) (fun i => [⟨true, .str s⟩, .un, .un, ⟨true, .int .i64 (i : Nat)⟩, .un, .un]) (fun i => []) 24 (fun i => i ≤ s.length ∧ 1 ≤ i ∧ nameB s = allF (nch s) i s.length) (fun i => s.length - i) 1 ⟨by omega, by omega, by simp only [nameB]; rw [decide_eq_true (by omega), decide_eq_true (by omega), hc0.1.2, decide_eq_false hc0.2]; rfl⟩ (Ghost.to [] q7 q7 q4 q1) ?_
    rintro i ⟨hi, hi1, hr⟩
    refine wp_assoc ?_; refine wp_regseq ?_; refine r_mv ?_; refine r_mv ?_
    refine r_lenS fun hlR4_2 => ?_; replace hlR4_2 := hlR4_2 rfl rfl
    refine r_lssI ?_; refine reg_end (env' := [_, _, _, _, ⟨_, (.bool _)⟩, _]) ?_
    refine wp_condseq (fun hc1 => ?_) (fun hc1 => ?_)
    · try simp only [b0, b1, b2, b3, b4, b5, b6, b7, b8, b9, b10, b11] at hc1
      refine wp_skipseq ?_
      refine wp_blockseq ?_ hm
      refine wp_regseq ?_; refine r_mv ?_; refine r_mv ?_
      first | refine r_ixS _ ?_ | refine r_ixST ?_
      refine r_call (hc := h453 _) ?_; refine r_not ?_; refine r_mv ?_; refine r_mv ?_; refine r_mv ?_
      first | refine r_ixS _ ?_ | refine r_ixST ?_
      refine r_call (hc := h454 _) ?_; refine r_not ?_; refine r_and ?_; refine r_mv ?_; refine r_mv ?_; refine r_mv ?_
      first | refine r_ixS _ ?_ | refine r_ixST ?_
      refine r_neqI ?_; refine r_and ?_; refine r_mv ?_; refine r_mv ?_; refine r_mv ?_
      first | refine r_ixS _ ?_ | refine r_ixST ?_
      refine r_eqlI ?_; refine r_mv ?_; refine r_mv ?_; refine r_mv ?_; refine r_sub64 ?_; refine r_ixS (i - 1) ?_; refine r_eqlI ?_; refine r_and ?_; refine r_or ?_; refine reg_end (env' := [_, _, _, _, _, ⟨_, (.bool _)⟩]) ?_
      refine wp_cond (fun hc2 => ?_) (fun hc2 => ?_)
      · try simp only [b0, b1, b2, b3, b4, b5, b6, b7, b8, b9, b10, b11] at hc2
        refine wp_regseq ?_; refine r_mv ?_; refine reg_end (env' := [_, ⟨_, (.bool _)⟩, _, _, _, _]) ?_; refine wp_ret ?_; refine BQ.ret ?_; refine LQ.ret ?_
        refine res_of trivial q2 q3 (Eq.trans q7 (congrArg D.bool ?_))
        rw [hr, allF_lt (by omega)]; simp only [nch]; revert hc2; generalize lowB (at8 s i) = x; generalize digitB (at8 s i) = y; by_cases h1 : at8 s i = 45 <;> by_cases h2 : at8 s (i - 1) = 45 <;> cases x <;> cases y <;> simp_all
      · try simp only [b0, b1, b2, b3, b4, b5, b6, b7, b8, b9, b10, b11] at hc2
        refine wp_skip ?_; refine BQ.normal ?_; refine wp_reg ?_; refine r_mv ?_; refine r_add64 ?_; refine r_mv ?_; refine reg_fin (env' := [_, _, _, ⟨_, (.int _ _)⟩, _, _]) ?_; refine LQ.normal ?_
        exact ⟨i + 1, ⟨by omega, by omega, by rw [hr, allF_lt (by omega)]; simp only [nch]; revert hc2; generalize lowB (at8 s i) = x; generalize digitB (at8 s i) = y; by_cases h1 : at8 s i = 45 <;> by_cases h2 : at8 s (i - 1) = 45 <;> cases x <;> cases y <;> simp_all⟩, by omega, (Ghost.to [] q7 q7 q4 q1)⟩
    · try simp only [b0, b1, b2, b3, b4, b5, b6, b7, b8, b9, b10, b11] at hc1
      refine wp_exitseq ?_; refine LQ.out ?_; refine wp_regseq ?_; refine r_mv ?_; refine reg_end (env' := [_, ⟨_, (.bool _)⟩, _, _, _, _]) ?_; refine wp_ret ?_
      refine res_of trivial q2 q3 (Eq.trans q7 (congrArg D.bool ?_))
      rw [hr, allF_ge (by omega)]
def C216 (Γ : Ctx) : Prop := ∀ (s : Str), Γ.pre 216 [.str s] ∧ Γ.val 216 [.str s] = .bool (nameB s)
/-- linchpin/linchpinref1.Number -/
def ref1_Number : AFunc := { np := 1, ns := 9, res := [⟨1, none⟩, ⟨2, none⟩], rsh := [[.a], [.a]], body := (.seq (.reg false [⟨.mv (.c (.int .i64 0)), none⟩, ⟨.mv (.c (.bool false)), none⟩] [(1, 0), (2, 1)]) (.seq (.seq (.reg false [⟨.mv (.s 0), none⟩, ⟨.lenS (.l 0), none⟩, ⟨.bin .lss (.l 1) (.c (.int .i64 1)), none⟩, ⟨.mv (.l 2), none⟩, ⟨.mv (.s 0), some (3, false)⟩, ⟨.lenS (.l 4), some (3, false)⟩, ⟨.bin .gtr (.l 5) (.c (.int .i64 9)), some (3, false)⟩, ⟨.pick (.l 3) (.c (.bool true)) (.l 6), none⟩, ⟨.mv (.l 7), none⟩, ⟨.mv (.s 0), some (8, false)⟩, ⟨.lenS (.l 9), some (8, false)⟩, ⟨.bin .gtr (.l 10) (.c (.int .i64 1)), some (8, false)⟩, ⟨.mv (.l 11), some (8, false)⟩, ⟨.mv (.s 0), some (12, true)⟩, ⟨.ixS (.l 13) (.c (.int .i64 0)), some (12, true)⟩, ⟨.bin .eql (.l 14) (.c (.int .u8 48)), some (12, true)⟩, ⟨.pick (.l 12) (.l 15) (.c (.bool false)), some (8, false)⟩, ⟨.pick (.l 8) (.c (.bool true)) (.l 16), none⟩] [(3, 17)]) (.cond (.s 3) (.seq (.reg false [⟨.mv (.c (.int .i64 0)), none⟩, ⟨.mv (.c (.bool false)), none⟩] [(1, 0), (2, 1)]) .ret) .skip)) (.seq (.reg false [⟨.mv (.c (.int .i64 0)), none⟩] [(7, 0)]) (.seq (.seq (.reg false [⟨.mv (.c (.int .i64 0)), none⟩] [(4, 0)]) (.block 0 (.loop (.seq (.seq (.reg false [⟨.mv (.s 4), none⟩, ⟨.mv (.s 0), none⟩, ⟨.lenS (.l 1), none⟩, ⟨.bin .lss (.l 0) (.l 2), none⟩] [(5, 3)]) (.cond (.s 5) .skip (.exit 0))) (.seq (.block 1 (.seq (.seq (.reg false [⟨.mv (.s 0), none⟩, ⟨.mv (.s 4), none⟩, ⟨.ixS (.l 0) (.l 1), none⟩, ⟨.call 454 [(.l 2)] [[.a]], none⟩, ⟨.un .not (.l 3), none⟩] [(6, 4)]) (.cond (.s 6) (.seq (.reg false [⟨.mv (.c (.int .i64 0)), none⟩, ⟨.mv (.c (.bool false)), none⟩] [(1, 0), (2, 1)]) .ret) .skip)) (.reg false [⟨.mv (.s 7), none⟩, ⟨.bin .mul (.l 0) (.c (.int .i64 10)), none⟩, ⟨.mv (.s 0), none⟩, ⟨.mv (.s 4), none⟩, ⟨.ixS (.l 2) (.l 3), none⟩, ⟨.bin .sub (.l 4) (.c (.int .u8 48)), none⟩, ⟨.cvi .i64 (.l 5), none⟩, ⟨.bin .add (.l 1) (.l 6), none⟩, ⟨.mv (.l 7), none⟩] [(7, 8)]))) (.reg false [⟨.mv (.s 4), none⟩, ⟨.bin .add (.l 0) (.c (.int .i64 1)), none⟩, ⟨.mv (.l 1), none⟩] [(4, 2)])))))) (.seq (.seq (.reg false [⟨.mv (.s 7), none⟩, ⟨.bin .gtr (.l 0) (.c (.int .i64 9999)), none⟩] [(8, 1)]) (.cond (.s 8) (.seq (.reg false [⟨.mv (.c (.int .i64 0)), none⟩, ⟨.mv (.c (.bool false)), none⟩] [(1, 0), (2, 1)]) .ret) .skip)) (.seq (.reg false [⟨.mv (.s 7), none⟩, ⟨.mv (.l 0), none⟩, ⟨.mv (.c (.bool true)), none⟩] [(1, 1), (2, 2)]) .ret)))))) }
theorem w667 {Γ : Ctx} (hm : (Γ.at 0).Mono) (h454 : C454 (Γ.at 0)) (s : Str)  : wpA (Γ.at 0) ref1_Number.body (Res ref1_Number (.tup [.int .i64 (numO s), .bool (numB s)]) : Ex → List Ent → St → Prop) (env0 ref1_Number [.str s]) ⟨0, []⟩ := by
  show wpA _ _ _ [⟨true, .str s⟩, .un, .un, .un, .un, .un, .un, .un, .un] ⟨0, []⟩
  refine wp_regseq ?_; refine r_mv ?_; refine r_mv ?_; refine reg_end (env' := [_, ⟨_, (.int _ _)⟩, ⟨_, (.bool _)⟩, _, _, _, _, _, _]) ?_; refine wp_assoc ?_; refine wp_regseq ?_; refine r_mv ?_
  refine r_lenS fun hlR1_1 => ?_; replace hlR1_1 := hlR1_1 rfl rfl
  refine r_lssI ?_; refine r_mv ?_; refine r_mv ?_
  refine r_lenS fun _ => ?_
  refine r_gtrI ?_; refine r_or ?_; refine r_mv ?_; refine r_mv ?_
  refine r_lenS fun _ => ?_
  refine r_gtrI ?_; refine r_mv ?_; refine r_mv ?_; refine r_ixS 0 ?_; refine r_eqlI ?_; refine r_and ?_; refine r_or ?_; refine reg_end (env' := [_, _, _, ⟨_, (.bool _)⟩, _, _, _, _, _]) ?_
  refine wp_condseq (fun hc0 => ?_) (fun hc0 => ?_)
  · try simp only [b0, b1, b2, b3, b4, b5, b6, b7, b8, b9, b10, b11] at hc0
    refine wp_assoc ?_; refine wp_regseq ?_; refine r_mv ?_; refine r_mv ?_; refine reg_end (env' := [_, ⟨_, (.int _ _)⟩, ⟨_, (.bool _)⟩, _, _, _, _, _, _]) ?_; refine wp_retseq ?_
    refine res_of trivial q2 q3 (Eq.trans q7 (tup_eq2 (congrArg (D.int .i64) ?_) (congrArg D.bool ?_)))
    all_goals
      have : numB s = false := by
        simp only [numB]; rcases hc0 with (h | h) | h
        · rw [decide_eq_false (by omega : ¬ 1 ≤ s.length)]; rfl
        · rw [decide_eq_false (by omega : ¬ s.length ≤ 9)]; simp
        · rw [decide_eq_true (by omega : 1 < s.length), decide_eq_true h.2]; simp
      simp [numO, this]
  · try simp only [b0, b1, b2, b3, b4, b5, b6, b7, b8, b9, b10, b11] at hc0
    refine wp_skipseq ?_; refine wp_regseq ?_; refine r_mv ?_; refine reg_end (env' := [_, _, _, _, _, _, _, ⟨_, (.int _ _)⟩, _]) ?_; refine wp_assoc ?_; refine wp_regseq ?_; refine r_mv ?_; refine reg_end (env' := [_, _, _, _, ⟨_, (.int _ _)⟩, _, _, _, _]) ?_
    have hP : numB s = (allF (fun i => digitB (at8 s i)) 0 s.length && decide (numVal s ≤ 9999)) := by
      simp only [numB]; rw [decide_eq_true (by omega : 1 ≤ s.length), decide_eq_true (by omega : s.length ≤ 9)]; rcases hc0.2 with h | h
      · rw [decide_eq_false (by omega : ¬ 1 < s.length)]; rfl
      · rw [decide_eq_false h, Bool.and_false]; rfl
    refine wp_for hm (ι := Nat) (fun i => [⟨true, .str s⟩, .un, .un, .un, ⟨true, .int .i64 (i : Nat)⟩, .un, .un, ⟨true, .int .i64 (numVal (s.take i) : Nat)⟩, .un]) (fun i => []) 22 (fun i => i ≤ s.length ∧ s.length ≤ 9 ∧ numB s = (allF (fun i => digitB (at8 s i)) i s.length && decide (numVal s ≤ 9999))) (fun i => s.length - i) 0 ⟨by omega, by omega, hP⟩ (Ghost.to [] q7 q7 q4 q1) ?_
    rintro i ⟨hi, h9, hr⟩
    refine wp_assoc ?_; refine wp_regseq ?_; refine r_mv ?_; refine r_mv ?_
    refine r_lenS fun hlR5_2 => ?_; replace hlR5_2 := hlR5_2 rfl rfl
    refine r_lssI ?_; refine reg_end (env' := [_, _, _, _, _, ⟨_, (.bool _)⟩, _, _, _]) ?_
    refine wp_condseq (fun hc1 => ?_) (fun hc1 => ?_)
    · try simp only [b0, b1, b2, b3, b4, b5, b6, b7, b8, b9, b10, b11] at hc1
      refine wp_skipseq ?_
      refine wp_blockseq ?_ hm
      refine wp_assoc ?_; refine wp_regseq ?_; refine r_mv ?_; refine r_mv ?_
      first | refine r_ixS _ ?_ | refine r_ixST ?_
      refine r_call (hc := h454 _) ?_; refine r_not ?_; refine reg_end (env' := [_, _, _, _, _, _, ⟨_, (.bool _)⟩, _, _]) ?_
      refine wp_condseq (fun hc2 => ?_) (fun hc2 => ?_)
      · try simp only [b0, b1, b2, b3, b4, b5, b6, b7, b8, b9, b10, b11] at hc2
        refine wp_assoc ?_; refine wp_regseq ?_; refine r_mv ?_; refine r_mv ?_; refine reg_end (env' := [_, ⟨_, (.int _ _)⟩, ⟨_, (.bool _)⟩, _, _, _, _, _, _]) ?_; refine wp_retseq ?_; refine BQ.ret ?_; refine LQ.ret ?_
        refine res_of trivial q2 q3 (Eq.trans q7 (tup_eq2 (congrArg (D.int .i64) ?_) (congrArg D.bool ?_)))
        all_goals
          have : numB s = false := by rw [hr, allF_lt (by omega), hc2]; rfl
          simp [numO, this]
      · simp only [Bool.not_eq_false'] at hc2
        refine wp_skipseq ?_; refine wp_reg ?_
        have h48 := hc2
        simp only [digitB, Bool.and_eq_true, decide_eq_true_eq] at h48
        have hn := numVal_small s i (by omega)
        have hn2 := numVal_succ s i (by omega)
        have h256 := at8_lt s i
        refine r_mv ?_; refine r_mul64 ?_; refine r_mv ?_; refine r_mv ?_
        first | refine r_ixS _ ?_ | refine r_ixST ?_
        refine r_subK (at8 s i - 48) (hb := fun _ => IntWalk.u8_in _ (by omega)) ?_
        refine r_cvi (at8 s i - 48) (hb := fun _ => IntWalk.i64_in _ (by omega)) ?_
        refine r_add64 ?_; refine r_mv ?_; refine reg_fin (env' := [_, _, _, _, _, _, _, ⟨_, (.int _ _)⟩, _]) ?_
        rw [show (numVal (s.take i) : Int) * 10 + (at8 s i - 48) = (numVal (s.take (i + 1)) : Nat) by omega]
        refine BQ.normal ?_; refine wp_reg ?_; refine r_mv ?_; refine r_add64 ?_; refine r_mv ?_; refine reg_fin (env' := [_, _, _, _, ⟨_, (.int _ _)⟩, _, _, _, _]) ?_; refine LQ.normal ?_
        exact ⟨i + 1, ⟨by omega, h9, by rw [hr, allF_lt (by omega), hc2]; rfl⟩, by omega, (Ghost.to [] q7 q7 q4 q1)⟩
    · try simp only [b0, b1, b2, b3, b4, b5, b6, b7, b8, b9, b10, b11] at hc1
      refine wp_exitseq ?_; refine LQ.out ?_; refine wp_assoc ?_; refine wp_regseq ?_
      have ht : s.take i = s := List.take_of_length_le (by omega)
      rw [ht]
      refine r_mv ?_; refine r_gtrI ?_; refine reg_end (env' := [_, _, _, _, _, _, _, _, ⟨_, (.bool _)⟩]) ?_
      refine wp_condseq (fun hc3 => ?_) (fun hc3 => ?_)
      · try simp only [b0, b1, b2, b3, b4, b5, b6, b7, b8, b9, b10, b11] at hc3
        refine wp_assoc ?_; refine wp_regseq ?_; refine r_mv ?_; refine r_mv ?_; refine reg_end (env' := [_, ⟨_, (.int _ _)⟩, ⟨_, (.bool _)⟩, _, _, _, _, _, _]) ?_; refine wp_retseq ?_
        refine res_of trivial q2 q3 (Eq.trans q7 (tup_eq2 (congrArg (D.int .i64) ?_) (congrArg D.bool ?_)))
        all_goals
          have : numB s = false := by rw [hr, decide_eq_false (by omega), Bool.and_false]
          simp [numO, this]
      · try simp only [b0, b1, b2, b3, b4, b5, b6, b7, b8, b9, b10, b11] at hc3
        refine wp_skipseq ?_; refine wp_regseq ?_; refine r_mv ?_; refine r_mv ?_; refine r_mv ?_; refine reg_end (env' := [_, ⟨_, (.int _ _)⟩, ⟨_, (.bool _)⟩, _, _, _, _, _, _]) ?_; refine wp_ret ?_
        refine res_of trivial q2 q3 (Eq.trans q7 (tup_eq2 (congrArg (D.int .i64) ?_) (congrArg D.bool ?_)))
        all_goals
          have : numB s = true := by rw [hr, allF_ge (by omega), decide_eq_true (by omega)]; rfl
          simp [numO, this]
def C667 (Γ : Ctx) : Prop := ∀ (s : Str), Γ.pre 667 [.str s] ∧ Γ.val 667 [.str s] = .tup [.int .i64 (numO s), .bool (numB s)]
/-- linchpin/linchpinref2.Numeric -/
def ref2_Numeric : AFunc := { np := 1, ns := 5, res := [⟨1, none⟩], rsh := [[.a]], body := (.seq (.reg false [⟨.mv (.c (.bool false)), none⟩] [(1, 0)]) (.seq (.seq (.reg false [⟨.mv (.c (.int .i64 0)), none⟩] [(2, 0)]) (.block 0 (.loop (.seq (.seq (.reg false [⟨.mv (.s 2), none⟩, ⟨.mv (.s 0), none⟩, ⟨.lenS (.l 1), none⟩, ⟨.bin .lss (.l 0) (.l 2), none⟩] [(3, 3)]) (.cond (.s 3) .skip (.exit 0))) (.seq (.block 1 (.seq (.reg false [⟨.mv (.s 0), none⟩, ⟨.mv (.s 2), none⟩, ⟨.ixS (.l 0) (.l 1), none⟩, ⟨.bin .lss (.l 2) (.c (.int .u8 48)), none⟩, ⟨.mv (.l 3), none⟩, ⟨.mv (.s 0), some (4, false)⟩, ⟨.mv (.s 2), some (4, false)⟩, ⟨.ixS (.l 5) (.l 6), some (4, false)⟩, ⟨.bin .gtr (.l 7) (.c (.int .u8 57)), some (4, false)⟩, ⟨.pick (.l 4) (.c (.bool true)) (.l 8), none⟩] [(4, 9)]) (.cond (.s 4) (.seq (.reg false [⟨.mv (.c (.bool false)), none⟩] [(1, 0)]) .ret) .skip))) (.reg false [⟨.mv (.s 2), none⟩, ⟨.bin .add (.l 0) (.c (.int .i64 1)), none⟩, ⟨.mv (.l 1), none⟩] [(2, 2)])))))) (.seq (.reg false [⟨.mv (.s 0), none⟩, ⟨.lenS (.l 0), none⟩, ⟨.bin .gtr (.l 1) (.c (.int .i64 0)), none⟩, ⟨.mv (.l 2), none⟩] [(1, 3)]) .ret))) }
theorem w668 {Γ : Ctx} (hm : (Γ.at 0).Mono)  (t : Str)  : wpA (Γ.at 0) ref2_Numeric.body (Res ref2_Numeric (.bool (numericB t)) : Ex → List Ent → St → Prop) (env0 ref2_Numeric [.str t]) ⟨0, []⟩ := by
  show wpA _ _ _ [⟨true, .str t⟩, .un, .un, .un, .un] ⟨0, []⟩
  refine wp_regseq ?_; refine r_mv ?_; refine reg_end (env' := [_, ⟨_, (.bool _)⟩, _, _, _]) ?_; refine wp_assoc ?_; refine wp_regseq ?_; refine r_mv ?_; refine reg_end (env' := [_, _, ⟨_, (.int _ _)⟩, _, _]) ?_
  refine wp_for hm (ι := Nat) (fun i => [⟨true, .str t⟩, .un, ⟨true, .int .i64 (i : Nat)⟩, .un, .un]) (fun i => []) 2 (fun i => i ≤ t.length ∧ allF (fun i => digitB (at8 t i)) 0 t.length = allF (fun i => digitB (at8 t i)) i t.length) (fun i => t.length - i) 0 ⟨by omega, rfl⟩ (Ghost.to [] q7 q7 q4 q1) ?_
  rintro i ⟨hi, hr⟩
  refine wp_assoc ?_; refine wp_regseq ?_; refine r_mv ?_; refine r_mv ?_
  refine r_lenS fun hlR2_2 => ?_; replace hlR2_2 := hlR2_2 rfl rfl
  refine r_lssI ?_; refine reg_end (env' := [_, _, _, ⟨_, (.bool _)⟩, _]) ?_
  refine wp_condseq (fun hc0 => ?_) (fun hc0 => ?_)
  · try simp only [b0, b1, b2, b3, b4, b5, b6, b7, b8, b9, b10, b11] at hc0
    refine wp_skipseq ?_
    refine wp_blockseq ?_ hm
    refine wp_regseq ?_; refine r_mv ?_; refine r_mv ?_
    first | refine r_ixS _ ?_ | refine r_ixST ?_
    refine r_lssI ?_; refine r_mv ?_; refine r_mv ?_; refine r_mv ?_
    first | refine r_ixS _ ?_ | refine r_ixST ?_
    refine r_gtrI ?_; refine r_or ?_; refine reg_end (env' := [_, _, _, _, ⟨_, (.bool _)⟩]) ?_
    refine wp_cond (fun hc1 => ?_) (fun hc1 => ?_)
    · try simp only [b0, b1, b2, b3, b4, b5, b6, b7, b8, b9, b10, b11] at hc1
      refine wp_regseq ?_; refine r_mv ?_; refine reg_end (env' := [_, ⟨_, (.bool _)⟩, _, _, _]) ?_; refine wp_ret ?_; refine BQ.ret ?_; refine LQ.ret ?_
      refine res_of trivial q2 q3 (Eq.trans q7 (congrArg D.bool ?_))
      simp only [numericB]; rw [hr, allF_lt (by omega)]; rcases hc1 with h | h <;> simp [digitB] <;> omega
    · try simp only [b0, b1, b2, b3, b4, b5, b6, b7, b8, b9, b10, b11] at hc1
      refine wp_skip ?_; refine BQ.normal ?_; refine wp_reg ?_; refine r_mv ?_; refine r_add64 ?_; refine r_mv ?_; refine reg_fin (env' := [_, _, ⟨_, (.int _ _)⟩, _, _]) ?_; refine LQ.normal ?_
      exact ⟨i + 1, ⟨by omega, by rw [hr, allF_lt (by omega)]; rw [show digitB (at8 t i) = true by simp only [digitB, Bool.and_eq_true, decide_eq_true_eq]; omega]; rfl⟩, by omega, (Ghost.to [] q7 q7 q4 q1)⟩
  · try simp only [b0, b1, b2, b3, b4, b5, b6, b7, b8, b9, b10, b11] at hc0
    refine wp_exitseq ?_; refine LQ.out ?_; refine wp_regseq ?_; refine r_mv ?_
    refine r_lenS fun hlR6_1 => ?_; replace hlR6_1 := hlR6_1 rfl rfl
    refine r_gtrI ?_; refine r_mv ?_; refine reg_end (env' := [_, ⟨_, (.bool _)⟩, _, _, _]) ?_; refine wp_ret ?_
    refine res_of trivial q2 q3 (Eq.trans q7 (congrArg D.bool ?_))
    simp only [numericB]; rw [hr, allF_ge (by omega)]; simp
def C668 (Γ : Ctx) : Prop := ∀ (t : Str), Γ.pre 668 [.str t] ∧ Γ.val 668 [.str t] = .bool (numericB t)
/-- linchpin/linchpinref2.tag -/
def ref2_tag : AFunc := { np := 1, ns := 7, res := [⟨1, none⟩], rsh := [[.a]], body := (.seq (.reg false [⟨.mv (.c (.bool false)), none⟩] [(1, 0)]) (.seq (.seq (.reg false [⟨.mv (.s 0), none⟩, ⟨.lenS (.l 0), none⟩, ⟨.bin .lss (.l 1) (.c (.int .i64 1)), none⟩, ⟨.mv (.l 2), none⟩, ⟨.mv (.s 0), some (3, false)⟩, ⟨.lenS (.l 4), some (3, false)⟩, ⟨.bin .gtr (.l 5) (.c (.int .i64 8)), some (3, false)⟩, ⟨.pick (.l 3) (.c (.bool true)) (.l 6), none⟩] [(2, 7)]) (.cond (.s 2) (.seq (.reg false [⟨.mv (.c (.bool false)), none⟩] [(1, 0)]) .ret) .skip)) (.seq (.seq (.reg false [⟨.mv (.c (.int .i64 0)), none⟩] [(3, 0)]) (.block 0 (.loop (.seq (.seq (.reg false [⟨.mv (.s 3), none⟩, ⟨.mv (.s 0), none⟩, ⟨.lenS (.l 1), none⟩, ⟨.bin .lss (.l 0) (.l 2), none⟩] [(4, 3)]) (.cond (.s 4) .skip (.exit 0))) (.seq (.block 1 (.seq (.reg false [⟨.mv (.s 0), none⟩, ⟨.mv (.s 3), none⟩, ⟨.ixS (.l 0) (.l 1), none⟩, ⟨.mv (.l 2), none⟩] [(5, 3)]) (.seq (.reg false [⟨.mv (.s 5), none⟩, ⟨.bin .lss (.l 0) (.c (.int .u8 97)), none⟩, ⟨.mv (.l 1), none⟩, ⟨.mv (.s 5), some (2, false)⟩, ⟨.bin .gtr (.l 3) (.c (.int .u8 122)), some (2, false)⟩, ⟨.pick (.l 2) (.c (.bool true)) (.l 4), none⟩, ⟨.mv (.l 5), none⟩, ⟨.mv (.s 5), some (6, true)⟩, ⟨.bin .lss (.l 7) (.c (.int .u8 48)), some (6, true)⟩, ⟨.mv (.l 8), some (6, true)⟩, ⟨.mv (.s 5), some (9, false)⟩, ⟨.bin .gtr (.l 10) (.c (.int .u8 57)), some (9, false)⟩, ⟨.pick (.l 9) (.c (.bool true)) (.l 11), some (6, true)⟩, ⟨.pick (.l 6) (.l 12) (.c (.bool false)), none⟩, ⟨.mv (.l 13), none⟩, ⟨.mv (.s 5), some (14, true)⟩, ⟨.bin .neq (.l 15) (.c (.int .u8 45)), some (14, true)⟩, ⟨.pick (.l 14) (.l 16) (.c (.bool false)), none⟩] [(6, 17)]) (.cond (.s 6) (.seq (.reg false [⟨.mv (.c (.bool false)), none⟩] [(1, 0)]) .ret) .skip)))) (.reg false [⟨.mv (.s 3), none⟩, ⟨.bin .add (.l 0) (.c (.int .i64 1)), none⟩, ⟨.mv (.l 1), none⟩] [(3, 2)])))))) (.seq (.reg false [⟨.mv (.c (.bool true)), none⟩] [(1, 0)]) .ret)))) }
theorem w666 {Γ : Ctx} (hm : (Γ.at 0).Mono)  (t : Str)  : wpA (Γ.at 0) ref2_tag.body (Res ref2_tag (.bool (tagB t)) : Ex → List Ent → St → Prop) (env0 ref2_tag [.str t]) ⟨0, []⟩ := by
  show wpA _ _ _ [⟨true, .str t⟩, .un, .un, .un, .un, .un, .un] ⟨0, []⟩
  refine wp_regseq ?_; refine r_mv ?_; refine reg_end (env' := [_, ⟨_, (.bool _)⟩, _, _, _, _, _]) ?_; refine wp_assoc ?_; refine wp_regseq ?_; refine r_mv ?_
  refine r_lenS fun hlR1_1 => ?_; replace hlR1_1 := hlR1_1 rfl rfl
  refine r_lssI ?_; refine r_mv ?_; refine r_mv ?_
  refine r_lenS fun _ => ?_
  refine r_gtrI ?_; refine r_or ?_; refine reg_end (env' := [_, _, ⟨_, (.bool _)⟩, _, _, _, _]) ?_
  refine wp_condseq (fun hc0 => ?_) (fun hc0 => ?_)
  · try simp only [b0, b1, b2, b3, b4, b5, b6, b7, b8, b9, b10, b11] at hc0
    refine wp_assoc ?_; refine wp_regseq ?_; refine r_mv ?_; refine reg_end (env' := [_, ⟨_, (.bool _)⟩, _, _, _, _, _]) ?_; refine wp_retseq ?_
    refine res_of trivial q2 q3 (Eq.trans q7 (congrArg D.bool ?_))
    symm; simp only [tagB, Bool.and_eq_false_iff, decide_eq_false_iff_not]; exact Or.inl (by omega)
  · try simp only [b0, b1, b2, b3, b4, b5, b6, b7, b8, b9, b10, b11] at hc0
    refine wp_skipseq ?_; refine wp_assoc ?_; refine wp_regseq ?_; refine r_mv ?_; refine reg_end (env' := [_, _, _, ⟨_, (.int _ _)⟩, _, _, _]) ?_
    refine wp_for hm (ι := Nat) (fun i => [⟨true, .str t⟩, .un, .un, ⟨true, .int .i64 (i : Nat)⟩, .un, .un, .un]) (fun i => []) 10 (fun i => i ≤ t.length ∧ tagB t = allF (fun i => tch (at8 t i)) i t.length) (fun i => t.length - i) 0 ⟨by omega, by simp only [tagB]; rw [decide_eq_true (by omega), decide_eq_true (by omega)]; rfl⟩ (Ghost.to [] q7 q7 q4 q1) ?_
    rintro i ⟨hi, hr⟩
    refine wp_assoc ?_; refine wp_regseq ?_; refine r_mv ?_; refine r_mv ?_
    refine r_lenS fun hlR4_2 => ?_; replace hlR4_2 := hlR4_2 rfl rfl
    refine r_lssI ?_; refine reg_end (env' := [_, _, _, _, ⟨_, (.bool _)⟩, _, _]) ?_
    refine wp_condseq (fun hc1 => ?_) (fun hc1 => ?_)
    · try simp only [b0, b1, b2, b3, b4, b5, b6, b7, b8, b9, b10, b11] at hc1
      refine wp_skipseq ?_
      refine wp_blockseq ?_ hm
      refine wp_regseq ?_; refine r_mv ?_; refine r_mv ?_
      first | refine r_ixS _ ?_ | refine r_ixST ?_
      refine r_mv ?_; refine reg_end (env' := [_, _, _, _, _, ⟨_, (.int _ _)⟩, _]) ?_; refine wp_regseq ?_; refine r_mv ?_; refine r_lssI ?_; refine r_mv ?_; refine r_mv ?_; refine r_gtrI ?_; refine r_or ?_; refine r_mv ?_; refine r_mv ?_; refine r_lssI ?_; refine r_mv ?_; refine r_mv ?_; refine r_gtrI ?_; refine r_or ?_; refine r_and ?_; refine r_mv ?_; refine r_mv ?_; refine r_neqI ?_; refine r_and ?_; refine reg_end (env' := [_, _, _, _, _, _, ⟨_, (.bool _)⟩]) ?_
      refine wp_cond (fun hc2 => ?_) (fun hc2 => ?_)
      · try simp only [b0, b1, b2, b3, b4, b5, b6, b7, b8, b9, b10, b11] at hc2
        refine wp_regseq ?_; refine r_mv ?_; refine reg_end (env' := [_, ⟨_, (.bool _)⟩, _, _, _, _, _]) ?_; refine wp_ret ?_; refine BQ.ret ?_; refine LQ.ret ?_
        refine res_of trivial q2 q3 (Eq.trans q7 (congrArg D.bool ?_))
        rw [hr, allF_lt (by omega)]; have : tch (at8 t i) = false := (by simp only [tch, lowB, digitB, Bool.or_eq_false_iff, Bool.and_eq_false_iff, decide_eq_false_iff_not]; omega)
        rw [this]; rfl
      · try simp only [b0, b1, b2, b3, b4, b5, b6, b7, b8, b9, b10, b11] at hc2
        refine wp_skip ?_; refine BQ.normal ?_; refine wp_reg ?_; refine r_mv ?_; refine r_add64 ?_; refine r_mv ?_; refine reg_fin (env' := [_, _, _, ⟨_, (.int _ _)⟩, _, _, _]) ?_; refine LQ.normal ?_
        exact ⟨i + 1, ⟨by omega, by rw [hr, allF_lt (by omega)]; have : tch (at8 t i) = true := (by simp only [tch, lowB, digitB, Bool.or_eq_true, Bool.and_eq_true, decide_eq_true_eq]; omega); rw [this]; rfl⟩, by omega, (Ghost.to [] q7 q7 q4 q1)⟩
    · try simp only [b0, b1, b2, b3, b4, b5, b6, b7, b8, b9, b10, b11] at hc1
      refine wp_exitseq ?_; refine LQ.out ?_; refine wp_regseq ?_; refine r_mv ?_; refine reg_end (env' := [_, ⟨_, (.bool _)⟩, _, _, _, _, _]) ?_; refine wp_ret ?_
      refine res_of trivial q2 q3 (Eq.trans q7 (congrArg D.bool ?_))
      rw [hr, allF_ge (by omega)]
def C666 (Γ : Ctx) : Prop := ∀ (t : Str), Γ.pre 666 [.str t] ∧ Γ.val 666 [.str t] = .bool (tagB t)
/-- linchpin/linchpinref2.tags -/
def ref2_tags : AFunc := { np := 2, ns := 11, res := [⟨2, none⟩], rsh := [[.a]], body := (.seq (.reg false [⟨.mv (.c (.bool false)), none⟩] [(2, 0)]) (.seq (.seq (.reg false [⟨.mv (.s 0), none⟩, ⟨.bin .eql (.l 0) (.c (.str [])), none⟩] [(3, 1)]) (.cond (.s 3) (.seq (.reg false [⟨.mv (.c (.bool true)), none⟩] [(2, 0)]) .ret) .skip)) (.seq (.reg false [⟨.mv (.s 0), none⟩, ⟨.call 470 [(.l 0), (.c (.int .u8 46))] [[.a], [.a]], none⟩, ⟨.mv (.l 1), none⟩] [(4, 2)]) (.seq (.seq (.reg false [⟨.mv (.s 4), none⟩, ⟨.len (.l 0), none⟩, ⟨.bin .gtr (.l 1) (.c (.int .i64 4)), none⟩] [(5, 2)]) (.cond (.s 5) (.seq (.reg false [⟨.mv (.c (.bool false)), none⟩] [(2, 0)]) .ret) .skip)) (.seq (.seq (.reg false [⟨.mv (.c (.int .i64 0)), none⟩] [(6, 0)]) (.block 0 (.loop (.seq (.seq (.reg false [⟨.mv (.s 6), none⟩, ⟨.mv (.s 4), none⟩, ⟨.len (.l 1), none⟩, ⟨.bin .lss (.l 0) (.l 2), none⟩] [(7, 3)]) (.cond (.s 7) .skip (.exit 0))) (.seq (.block 1 (.seq (.seq (.reg false [⟨.mv (.s 4), none⟩, ⟨.mv (.s 6), none⟩, ⟨.ia 1 (.l 0) (.l 1), none⟩, ⟨.ld 1 false (.l 2), none⟩, ⟨.call 666 [(.l 3)] [[.a]], none⟩, ⟨.un .not (.l 4), none⟩] [(8, 5)]) (.cond (.s 8) (.seq (.reg false [⟨.mv (.c (.bool false)), none⟩] [(2, 0)]) .ret) .skip)) (.seq (.reg false [⟨.mv (.s 4), none⟩, ⟨.mv (.s 6), none⟩, ⟨.ia 1 (.l 0) (.l 1), none⟩, ⟨.ld 1 false (.l 2), none⟩, ⟨.call 667 [(.l 3)] [[.a]], none⟩, ⟨.mv (.l 4), none⟩, ⟨.ext (.l 5) 0, none⟩, ⟨.ext (.l 5) 1, none⟩, ⟨.mv (.l 6), none⟩, ⟨.mv (.l 7), none⟩] [(9, 9)]) (.seq (.reg false [⟨.mv (.s 1), none⟩, ⟨.mv (.l 0), none⟩, ⟨.mv (.s 4), some (1, true)⟩, ⟨.mv (.s 6), some (1, true)⟩, ⟨.ia 1 (.l 2) (.l 3), some (1, true)⟩, ⟨.ld 1 false (.l 4), some (1, true)⟩, ⟨.call 668 [(.l 5)] [[.a]], some (1, true)⟩, ⟨.pick (.l 1) (.l 6) (.c (.bool false)), none⟩, ⟨.mv (.l 7), none⟩, ⟨.mv (.s 9), some (8, true)⟩, ⟨.un .not (.l 9), some (8, true)⟩, ⟨.pick (.l 8) (.l 10) (.c (.bool false)), none⟩] [(10, 11)]) (.cond (.s 10) (.seq (.reg false [⟨.mv (.c (.bool false)), none⟩] [(2, 0)]) .ret) .skip))))) (.reg false [⟨.mv (.s 6), none⟩, ⟨.bin .add (.l 0) (.c (.int .i64 1)), none⟩, ⟨.mv (.l 1), none⟩] [(6, 2)])))))) (.seq (.reg false [⟨.mv (.c (.bool true)), none⟩] [(2, 0)]) .ret)))))) }
theorem w456 {Γ : Ctx} (hm : (Γ.at 0).Mono) (h470 : C470 (Γ.at 0)) (h666 : C666 (Γ.at 0)) (h667 : C667 (Γ.at 0)) (h668 : C668 (Γ.at 0)) (s : Str) (p : Bool) (hp0 : s.length ≤ 1048576) : wpA (Γ.at 0) ref2_tags.body (Res ref2_tags (.bool (tagsB s p)) : Ex → List Ent → St → Prop) (env0 ref2_tags [.str s, .bool p]) ⟨0, []⟩ := by
  show wpA _ _ _ [⟨true, .str s⟩, ⟨true, .bool p⟩, .un, .un, .un, .un, .un, .un, .un, .un, .un] ⟨0, []⟩
  refine wp_regseq ?_; refine r_mv ?_; refine reg_end (env' := [_, _, ⟨_, (.bool _)⟩, _, _, _, _, _, _, _, _]) ?_; refine wp_assoc ?_; refine wp_regseq ?_; refine r_mv ?_; refine r_eqlS ?_; refine reg_end (env' := [_, _, _, ⟨_, (.bool _)⟩, _, _, _, _, _, _, _]) ?_
  refine wp_condseq (fun hc0 => ?_) (fun hc0 => ?_)
  · try simp only [b0, b1, b2, b3, b4, b5, b6, b7, b8, b9, b10, b11] at hc0
    refine wp_assoc ?_; refine wp_regseq ?_; refine r_mv ?_; refine reg_end (env' := [_, _, ⟨_, (.bool _)⟩, _, _, _, _, _, _, _, _]) ?_; refine wp_retseq ?_
    refine res_of trivial q2 q3 (Eq.trans q7 (congrArg D.bool ?_))
    simp [tagsB, hc0]
  · try simp only [b0, b1, b2, b3, b4, b5, b6, b7, b8, b9, b10, b11] at hc0
    refine wp_skipseq ?_; refine wp_regseq ?_; refine r_mv ?_
    refine r_call (hc := h470 _ _ ?_) ?_; rotate_left; first | assumption | omega; have hlen := splitL_len s 46
    refine r_mv ?_; refine reg_end (env' := [_, _, _, _, ⟨_, (.sl _ _)⟩, _, _, _, _, _, _]) ?_; refine wp_assoc ?_; refine wp_regseq ?_; refine r_mv ?_
    refine r_lenM fun hlR4_1 => ?_; replace hlR4_1 := hlR4_1 rfl rfl
    refine r_gtrI ?_; refine reg_end (env' := [_, _, _, _, _, ⟨_, (.bool _)⟩, _, _, _, _, _]) ?_
    refine wp_condseq (fun hc1 => ?_) (fun hc1 => ?_)
    · try simp only [b0, b1, b2, b3, b4, b5, b6, b7, b8, b9, b10, b11] at hc1
      refine wp_assoc ?_; refine wp_regseq ?_; refine r_mv ?_; refine reg_end (env' := [_, _, ⟨_, (.bool _)⟩, _, _, _, _, _, _, _, _]) ?_; refine wp_retseq ?_
      refine res_of trivial q2 q3 (Eq.trans q7 (congrArg D.bool ?_))
      simp only [tagsB, tagsP]; rw [decide_eq_false hc0, decide_eq_false (by omega)]; rfl
    · simp only [decide_eq_false_iff_not] at hc1
      refine wp_skipseq ?_; refine wp_assoc ?_; refine wp_regseq ?_; refine r_mv ?_; refine reg_end (env' := [_, _, _, _, _, _, ⟨_, (.int _ _)⟩, _, _, _, _]) ?_
      refine wp_for hm (ι := Nat) (fun i => [⟨true, .str s⟩, ⟨true, .bool p⟩, .un, .un, ⟨true, .sl 1 ((splitL s 46).map D.str)⟩, .un, ⟨true, .int .i64 (i : Nat)⟩, .un, .un, .un, .un]) (fun i => []) 10 (fun i => i ≤ (splitL s 46).length ∧ tagsB s p = allF (fun i => tagOK p (splitL s 46)[i]!) i (splitL s 46).length) (fun i => (splitL s 46).length - i) 0 ⟨by omega, by simp only [tagsB, tagsP]; rw [decide_eq_false hc0, decide_eq_true (by omega)]; rfl⟩ (Ghost.to [] q7 q7 q4 q1) ?_
      rintro i ⟨hi, hr⟩
      refine wp_assoc ?_; refine wp_regseq ?_; refine r_mv ?_; refine r_mv ?_
      refine r_lenM fun hlR7_2 => ?_; replace hlR7_2 := hlR7_2 rfl rfl
      refine r_lssI ?_; refine reg_end (env' := [_, _, _, _, _, _, _, ⟨_, (.bool _)⟩, _, _, _]) ?_
      refine wp_condseq (fun hc2 => ?_) (fun hc2 => ?_)
      · try simp only [b0, b1, b2, b3, b4, b5, b6, b7, b8, b9, b10, b11] at hc2
        refine wp_skipseq ?_
        refine wp_blockseq ?_ hm
        refine wp_assoc ?_; refine wp_regseq ?_; refine r_mv ?_; refine r_mv ?_
        first | refine r_iaM _ ?_ | refine r_iaMT ?_
        first | refine r_ldR (v := (.str _)) ?_ | refine r_ldQ (v := (.str _)) ?_
        refine r_call (hc := h666 _) ?_; refine r_not ?_; refine reg_end (env' := [_, _, _, _, _, _, _, _, ⟨_, (.bool _)⟩, _, _]) ?_
        refine wp_condseq (fun hc3 => ?_) (fun hc3 => ?_)
        · simp only [Bool.not_eq_true'] at hc3
          refine wp_assoc ?_; refine wp_regseq ?_; refine r_mv ?_; refine reg_end (env' := [_, _, ⟨_, (.bool _)⟩, _, _, _, _, _, _, _, _]) ?_; refine wp_retseq ?_; refine BQ.ret ?_; refine LQ.ret ?_
          refine res_of trivial q2 q3 (Eq.trans q7 (congrArg D.bool ?_))
          rw [hr, allF_lt (by omega)]; simp only [tagOK, hc3]; rfl
        · simp only [Bool.not_eq_false'] at hc3
          refine wp_skipseq ?_; refine wp_regseq ?_; refine r_mv ?_; refine r_mv ?_
          first | refine r_iaM _ ?_ | refine r_iaMT ?_
          first | refine r_ldR (v := (.str _)) ?_ | refine r_ldQ (v := (.str _)) ?_
          refine r_call (hc := h667 _) ?_; refine r_mv ?_; refine r_ext (.int _ _) ?_; refine r_ext (.bool _) ?_; refine r_mv ?_; refine r_mv ?_; refine reg_end (env' := [_, _, _, _, _, _, _, _, _, ⟨_, (.bool _)⟩, _]) ?_; refine wp_regseq ?_; refine r_mv ?_; refine r_mv ?_; refine r_mv ?_; refine r_mv ?_
          first | refine r_iaM _ ?_ | refine r_iaMT ?_
          first | refine r_ldR (v := (.str _)) ?_ | refine r_ldQ (v := (.str _)) ?_
          refine r_call (hc := h668 _) ?_; refine r_and ?_; refine r_mv ?_; refine r_mv ?_; refine r_not ?_; refine r_and ?_; refine reg_end (env' := [_, _, _, _, _, _, _, _, _, _, ⟨_, (.bool _)⟩]) ?_
          refine wp_cond (fun hc4 => ?_) (fun hc4 => ?_)
          · skip
            refine wp_regseq ?_; refine r_mv ?_; refine reg_end (env' := [_, _, ⟨_, (.bool _)⟩, _, _, _, _, _, _, _, _]) ?_; refine wp_ret ?_; refine BQ.ret ?_; refine LQ.ret ?_
            refine res_of trivial q2 q3 (Eq.trans q7 (congrArg D.bool ?_))
            have h5 : tagOK p (splitL s 46)[i]! = false := (by simp only [tagOK, hc3]; revert hc4; generalize numericB (splitL s 46)[i]! = a; generalize numB (splitL s 46)[i]! = b; cases p <;> cases a <;> cases b <;> simp)
            rw [hr, allF_lt (by omega), h5]; rfl
          · skip
            refine wp_skip ?_; refine BQ.normal ?_; refine wp_reg ?_; refine r_mv ?_; refine r_add64 ?_; refine r_mv ?_; refine reg_fin (env' := [_, _, _, _, _, _, ⟨_, (.int _ _)⟩, _, _, _, _]) ?_; refine LQ.normal ?_
            exact ⟨i + 1, ⟨by omega, by rw [hr, allF_lt (by omega)]; have h5 : tagOK p (splitL s 46)[i]! = true := (by simp only [tagOK, hc3]; revert hc4; generalize numericB (splitL s 46)[i]! = a; generalize numB (splitL s 46)[i]! = b; cases p <;> cases a <;> cases b <;> simp); rw [h5]; rfl⟩, by omega, (Ghost.to [] q7 q7 q4 q1)⟩
      · try simp only [b0, b1, b2, b3, b4, b5, b6, b7, b8, b9, b10, b11] at hc2
        refine wp_exitseq ?_; refine LQ.out ?_; refine wp_regseq ?_; refine r_mv ?_; refine reg_end (env' := [_, _, ⟨_, (.bool _)⟩, _, _, _, _, _, _, _, _]) ?_; refine wp_ret ?_
        refine res_of trivial q2 q3 (Eq.trans q7 (congrArg D.bool ?_))
        rw [hr, allF_ge (by omega)]
def C456 (Γ : Ctx) : Prop := ∀ (s : Str) (p : Bool), (s.length ≤ 1048576) → Γ.pre 456 [.str s, .bool p] ∧ Γ.val 456 [.str s, .bool p] = .bool (tagsB s p)
/-- linchpin/linchpinref2.num -/
def ref2_num : AFunc := { np := 1, ns := 2, res := [⟨1, none⟩], rsh := [[.a]], body := (.seq (.reg false [⟨.mv (.c (.bool false)), none⟩] [(1, 0)]) (.seq (.reg false [⟨.mv (.s 0), none⟩, ⟨.bin .geq (.l 0) (.c (.int .i64 0)), none⟩, ⟨.mv (.l 1), none⟩, ⟨.mv (.s 0), some (2, true)⟩, ⟨.bin .leq (.l 3) (.c (.int .i64 9999)), some (2, true)⟩, ⟨.pick (.l 2) (.l 4) (.c (.bool false)), none⟩, ⟨.mv (.l 5), none⟩] [(1, 6)]) .ret)) }
theorem w455 {Γ : Ctx} (hm : (Γ.at 0).Mono)  (n : Int)  : wpA (Γ.at 0) ref2_num.body (Res ref2_num (.bool (fitB n)) : Ex → List Ent → St → Prop) (env0 ref2_num [.int .i64 n]) ⟨0, []⟩ := by
  show wpA _ _ _ [⟨true, .int .i64 n⟩, .un] ⟨0, []⟩
  refine wp_regseq ?_; refine r_mv ?_; refine reg_end (env' := [_, ⟨_, (.bool _)⟩]) ?_; refine wp_regseq ?_; refine r_mv ?_; refine r_geqI ?_; refine r_mv ?_; refine r_mv ?_; refine r_leqI ?_; refine r_and ?_; refine r_mv ?_; refine reg_end (env' := [_, ⟨_, (.bool _)⟩]) ?_; refine wp_ret ?_
  refine res_of trivial q2 q3 (Eq.trans q7 (congrArg D.bool ?_))
  rfl
def C455 (Γ : Ctx) : Prop := ∀ (n : Int), Γ.pre 455 [.int .i64 n] ∧ Γ.val 455 [.int .i64 n] = .bool (fitB n)
/-- linchpin/linchpinref2.May -/
def ref2_May : AFunc := { np := 1, ns := 3, res := [⟨1, none⟩], rsh := [[.a]], body := (.seq (.reg false [⟨.box 5 (.s 0), none⟩, ⟨.mv (.c (.bool false)), none⟩] [(2, 0), (1, 1)]) (.seq (.reg false [⟨.fa 0 (.s 2), none⟩, ⟨.ld 1 false (.l 0), none⟩, ⟨.call 455 [(.l 1)] [[.a]], none⟩, ⟨.mv (.l 2), none⟩, ⟨.fa 1 (.s 2), some (3, true)⟩, ⟨.ld 1 false (.l 4), some (3, true)⟩, ⟨.call 455 [(.l 5)] [[.a]], some (3, true)⟩, ⟨.pick (.l 3) (.l 6) (.c (.bool false)), none⟩, ⟨.mv (.l 7), none⟩, ⟨.fa 2 (.s 2), some (8, true)⟩, ⟨.ld 1 false (.l 9), some (8, true)⟩, ⟨.call 455 [(.l 10)] [[.a]], some (8, true)⟩, ⟨.pick (.l 8) (.l 11) (.c (.bool false)), none⟩, ⟨.mv (.l 12), none⟩, ⟨.fa 3 (.s 2), some (13, true)⟩, ⟨.ld 1 false (.l 14), some (13, true)⟩, ⟨.call 456 [(.l 15), (.c (.bool true))] [[.a], [.a]], some (13, true)⟩, ⟨.pick (.l 13) (.l 16) (.c (.bool false)), none⟩, ⟨.mv (.l 17), none⟩, ⟨.fa 4 (.s 2), some (18, true)⟩, ⟨.ld 1 false (.l 19), some (18, true)⟩, ⟨.call 456 [(.l 20), (.c (.bool false))] [[.a], [.a]], some (18, true)⟩, ⟨.pick (.l 18) (.l 21) (.c (.bool false)), none⟩, ⟨.mv (.l 22), none⟩] [(1, 23)]) .ret)) }
theorem w217 {Γ : Ctx} (hm : (Γ.at 0).Mono) (h455 : C455 (Γ.at 0)) (h456 : C456 (Γ.at 0)) (v : Ver) (hp0 : v.sm) : wpA (Γ.at 0) ref2_May.body (Res ref2_May (.bool (verB v)) : Ex → List Ent → St → Prop) (env0 ref2_May [Ver.D v]) ⟨0, []⟩ := by
  show wpA _ _ _ [⟨true, Ver.D v⟩, .un, .un] ⟨0, []⟩
  refine wp_regseq ?_; refine r_box ?_; refine r_mv ?_; refine reg_end (env' := [_, ⟨_, (.bool _)⟩, ⟨_, _⟩]) ?_; refine wp_regseq ?_; refine r_faP ?_; refine r_ldF (v := (.int _ _)) ?_; refine r_call (hc := h455 _) ?_; refine r_mv ?_; refine r_faP ?_; refine r_ldF (v := (.int _ _)) ?_; refine r_call (hc := h455 _) ?_; refine r_and ?_; refine r_mv ?_; refine r_faP ?_; refine r_ldF (v := (.int _ _)) ?_; refine r_call (hc := h455 _) ?_; refine r_and ?_; refine r_mv ?_; refine r_faP ?_; refine r_ldF (v := (.str _)) ?_
  refine r_callG (hc := fun hf => h456 v.pre true hp0.1) ?_
  refine r_and ?_; refine r_mv ?_; refine r_faP ?_; refine r_ldF (v := (.str _)) ?_
  refine r_callG (hc := fun hf => h456 v.build false hp0.2) ?_
  refine r_and ?_; refine r_mv ?_; refine reg_end (env' := [_, ⟨_, (.bool _)⟩, _]) ?_; refine wp_ret ?_
  refine res_of trivial q2 q3 (Eq.trans q7 (congrArg D.bool ?_))
  rfl
def C217 (Γ : Ctx) : Prop := ∀ (v : Ver), (v.sm) → Γ.pre 217 [Ver.D v] ∧ Γ.val 217 [Ver.D v] = .bool (verB v)
end Go.Abs
end
section
namespace Go.Abs
open Go
/-- linchpin/linchpinref2.Numbers -/
def ref2_Numbers : AFunc := { np := 1, ns := 4, res := [⟨1, none⟩], rsh := [[.a]], body := (.seq (.reg false [⟨.box 5 (.s 0), none⟩, ⟨.mv (.c (.str [])), none⟩] [(2, 0), (1, 1)]) (.seq (.reg true [⟨.fa 0 (.s 2), none⟩, ⟨.ld 1 false (.l 0), none⟩, ⟨.call 734 [(.l 1)] [[.a]], none⟩, ⟨.bin .add (.l 2) (.c (.str [46])), none⟩, ⟨.fa 1 (.s 2), none⟩, ⟨.ld 1 false (.l 4), none⟩, ⟨.call 734 [(.l 5)] [[.a]], none⟩, ⟨.bin .add (.l 3) (.l 6), none⟩, ⟨.mv (.l 7), none⟩] [(3, 8)]) (.seq (.reg false [⟨.mv (.s 3), none⟩, ⟨.bin .add (.l 0) (.c (.str [46])), none⟩, ⟨.fa 2 (.s 2), none⟩, ⟨.ld 1 false (.l 2), none⟩, ⟨.call 734 [(.l 3)] [[.a]], none⟩, ⟨.bin .add (.l 1) (.l 4), none⟩, ⟨.mv (.l 5), none⟩] [(1, 6)]) .ret))) }
theorem w554 {Γ : Ctx} (hm : (Γ.at 0).Mono) (h734 : C734 (Γ.at 0)) (v : Ver) (hp0 : fitB v.major = true ∧ fitB v.minor = true ∧ fitB v.patch = true) : wpA (Γ.at 0) ref2_Numbers.body (Res ref2_Numbers (.str (decN v.major.toNat ++ [46] ++ decN v.minor.toNat ++ [46] ++ decN v.patch.toNat)) : Ex → List Ent → St → Prop) (env0 ref2_Numbers [Ver.D v]) ⟨0, []⟩ := by
  show wpA _ _ _ [⟨true, Ver.D v⟩, .un, .un, .un] ⟨0, []⟩
  obtain ⟨hq1, hq2, hq3⟩ := hp0
  simp only [fitB, Bool.and_eq_true, decide_eq_true_eq] at hq1 hq2 hq3
  have hl1 := decN_len 4 v.major.toNat (by omega) (by omega)
  have hl2 := decN_len 4 v.minor.toNat (by omega) (by omega)
  have hl3 := decN_len 4 v.patch.toNat (by omega) (by omega)
  refine wp_regseq ?_; refine r_box ?_; refine r_mv ?_; refine reg_end (env' := [_, ⟨_, (.str _)⟩, ⟨_, _⟩, _]) ?_; refine wp_regseq ?_; refine r_faP ?_; refine r_ldF (v := (.int _ _)) ?_
  refine r_call (hc := h734 _ ?_) ?_; rotate_left; first | assumption | omega
  refine r_addS (hb := fun _ => by simp; omega) ?_
  refine r_faP ?_; refine r_ldF (v := (.int _ _)) ?_
  refine r_call (hc := h734 _ ?_) ?_; rotate_left; first | assumption | omega
  refine r_addS (hb := fun _ => by simp; omega) ?_
  refine r_mv ?_; refine reg_end (env' := [_, _, _, ⟨_, (.str _)⟩]) ?_; refine wp_regseq ?_; refine r_mv ?_
  refine r_addS (hb := fun _ => by simp; omega) ?_
  refine r_faP ?_; refine r_ldF (v := (.int _ _)) ?_
  refine r_call (hc := h734 _ ?_) ?_; rotate_left; first | assumption | omega
  refine r_addS (hb := fun _ => by simp; omega) ?_
  refine r_mv ?_; refine reg_end (env' := [_, ⟨_, (.str _)⟩, _, _]) ?_; refine wp_ret ?_
  refine res_of trivial q2 q3 (Eq.trans q7 (congrArg D.str ?_))
  rfl
def C554 (Γ : Ctx) : Prop := ∀ (v : Ver), (fitB v.major = true ∧ fitB v.minor = true ∧ fitB v.patch = true) → Γ.pre 554 [Ver.D v] ∧ Γ.val 554 [Ver.D v] = .str (decN v.major.toNat ++ [46] ++ decN v.minor.toNat ++ [46] ++ decN v.patch.toNat)
/-- linchpin/linchpinref2.Print -/
def ref2_Print : AFunc := { np := 1, ns := 7, res := [⟨1, none⟩], rsh := [[.a]], body := (.seq (.reg false [⟨.box 5 (.s 0), none⟩, ⟨.mv (.c (.str [])), none⟩] [(2, 0), (1, 1)]) (.seq (.seq (.reg false [⟨.ld 5 true (.s 2), none⟩, ⟨.call 217 [(.l 0)] [[.a, .a, .a, .a, .a]], none⟩, ⟨.un .not (.l 1), none⟩] [(3, 2)]) (.cond (.s 3) (.seq (.reg false [⟨.mv (.c (.str [])), none⟩] [(1, 0)]) .ret) .skip)) (.seq (.reg false [⟨.ld 5 true (.s 2), none⟩, ⟨.call 554 [(.l 0)] [[.a, .a, .a, .a, .a]], none⟩, ⟨.mv (.l 1), none⟩] [(5, 2)]) (.seq (.seq (.reg false [⟨.fa 3 (.s 2), none⟩, ⟨.ld 1 false (.l 0), none⟩, ⟨.bin .neq (.l 1) (.c (.str [])), none⟩] [(4, 2)]) (.cond (.s 4) (.reg false [⟨.mv (.s 5), none⟩, ⟨.bin .add (.l 0) (.c (.str [45])), none⟩, ⟨.fa 3 (.s 2), none⟩, ⟨.ld 1 false (.l 2), none⟩, ⟨.bin .add (.l 1) (.l 3), none⟩, ⟨.mv (.l 4), none⟩] [(5, 5)]) .skip)) (.seq (.seq (.reg false [⟨.fa 4 (.s 2), none⟩, ⟨.ld 1 false (.l 0), none⟩, ⟨.bin .neq (.l 1) (.c (.str [])), none⟩] [(6, 2)]) (.cond (.s 6) (.reg false [⟨.mv (.s 5), none⟩, ⟨.bin .add (.l 0) (.c (.str [43])), none⟩, ⟨.fa 4 (.s 2), none⟩, ⟨.ld 1 false (.l 2), none⟩, ⟨.bin .add (.l 1) (.l 3), none⟩, ⟨.mv (.l 4), none⟩] [(5, 5)]) .skip)) (.seq (.reg false [⟨.mv (.s 5), none⟩, ⟨.mv (.l 0), none⟩] [(1, 1)]) .ret)))))) }
theorem w316 {Γ : Ctx} (hm : (Γ.at 0).Mono) (h217 : C217 (Γ.at 0)) (h554 : C554 (Γ.at 0)) (v : Ver) (hp0 : v.sm) : wpA (Γ.at 0) ref2_Print.body (Res ref2_Print (.str (verP v)) : Ex → List Ent → St → Prop) (env0 ref2_Print [Ver.D v]) ⟨0, []⟩ := by
  show wpA _ _ _ [⟨true, Ver.D v⟩, .un, .un, .un, .un, .un, .un] ⟨0, []⟩
  obtain ⟨hs1, hs2⟩ := hp0
  have hp0 : v.sm := ⟨hs1, hs2⟩
  refine wp_regseq ?_; refine r_box ?_; refine r_mv ?_; refine reg_end (env' := [_, ⟨_, (.str _)⟩, ⟨_, _⟩, _, _, _, _]) ?_; refine wp_assoc ?_; refine wp_regseq ?_; refine r_ldB ?_
  refine r_call (hc := h217 _ ?_) ?_; rotate_left; first | assumption | omega
  refine r_not ?_; refine reg_end (env' := [_, _, _, ⟨_, (.bool _)⟩, _, _, _]) ?_
  refine wp_condseq (fun hc0 => ?_) (fun hc0 => ?_)
  · simp only [Bool.not_eq_true'] at hc0
    refine wp_assoc ?_; refine wp_regseq ?_; refine r_mv ?_; refine reg_end (env' := [_, ⟨_, (.str _)⟩, _, _, _, _, _]) ?_; refine wp_retseq ?_
    refine res_of trivial q2 q3 (Eq.trans q7 (congrArg D.str ?_))
    simp [verP, hc0]
  · simp only [Bool.not_eq_false'] at hc0
    refine wp_skipseq ?_; refine wp_regseq ?_
    have hv := hc0
    simp only [verB, Bool.and_eq_true] at hv
    obtain ⟨⟨⟨⟨hv1, hv2⟩, hv3⟩, _⟩, _⟩ := hv
    have hq1 := hv1; have hq2 := hv2; have hq3 := hv3
    simp only [fitB, Bool.and_eq_true, decide_eq_true_eq] at hq1 hq2 hq3
    have hl1 := decN_len 4 v.major.toNat (by omega) (by omega)
    have hl2 := decN_len 4 v.minor.toNat (by omega) (by omega)
    have hl3 := decN_len 4 v.patch.toNat (by omega) (by omega)
    refine r_ldB ?_; refine r_call (hc := h554 v ⟨hv1, hv2, hv3⟩) ?_; refine r_mv ?_; refine reg_end (env' := [_, _, _, _, _, ⟨_, (.str _)⟩, _]) ?_; refine wp_assoc ?_; refine wp_regseq ?_; refine r_faP ?_; refine r_ldF (v := (.str _)) ?_; refine r_neqS ?_; refine reg_end (env' := [_, _, _, _, ⟨_, (.bool _)⟩, _, _]) ?_
    refine wp_condseq (fun hc1 => ?_) (fun hc1 => ?_)
    · try simp only [b0, b1, b2, b3, b4, b5, b6, b7, b8, b9, b10, b11] at hc1
      refine wp_regseq ?_; refine r_mv ?_
      refine r_addS (hb := fun _ => by simp; omega) ?_
      refine r_faP ?_; refine r_ldF (v := (.str _)) ?_
      refine r_addS (hb := fun _ => by simp; omega) ?_
      refine r_mv ?_; refine reg_end (env' := [_, _, _, _, _, ⟨_, (.str _)⟩, _]) ?_; refine wp_assoc ?_; refine wp_regseq ?_; refine r_faP ?_; refine r_ldF (v := (.str _)) ?_; refine r_neqS ?_; refine reg_end (env' := [_, _, _, _, _, _, ⟨_, (.bool _)⟩]) ?_
      refine wp_condseq (fun hc2 => ?_) (fun hc2 => ?_)
      · try simp only [b0, b1, b2, b3, b4, b5, b6, b7, b8, b9, b10, b11] at hc2
        refine wp_regseq ?_; refine r_mv ?_
        refine r_addS (hb := fun _ => by simp; omega) ?_
        refine r_faP ?_; refine r_ldF (v := (.str _)) ?_
        refine r_addS (hb := fun _ => by simp; omega) ?_
        refine r_mv ?_; refine reg_end (env' := [_, _, _, _, _, ⟨_, (.str _)⟩, _]) ?_; refine wp_regseq ?_; refine r_mv ?_; refine r_mv ?_; refine reg_end (env' := [_, ⟨_, (.str _)⟩, _, _, _, _, _]) ?_; refine wp_ret ?_
        refine res_of trivial q2 q3 (Eq.trans q7 (congrArg D.str ?_))
        simp [verP, verS, hc0, hc1, hc2]
      · try simp only [b0, b1, b2, b3, b4, b5, b6, b7, b8, b9, b10, b11] at hc2
        refine wp_skipseq ?_; refine wp_regseq ?_; refine r_mv ?_; refine r_mv ?_; refine reg_end (env' := [_, ⟨_, (.str _)⟩, _, _, _, _, _]) ?_; refine wp_ret ?_
        refine res_of trivial q2 q3 (Eq.trans q7 (congrArg D.str ?_))
        simp [verP, verS, hc0, hc1, hc2]
    · try simp only [b0, b1, b2, b3, b4, b5, b6, b7, b8, b9, b10, b11] at hc1
      refine wp_skipseq ?_; refine wp_assoc ?_; refine wp_regseq ?_; refine r_faP ?_; refine r_ldF (v := (.str _)) ?_; refine r_neqS ?_; refine reg_end (env' := [_, _, _, _, _, _, ⟨_, (.bool _)⟩]) ?_
      refine wp_condseq (fun hc2 => ?_) (fun hc2 => ?_)
      · try simp only [b0, b1, b2, b3, b4, b5, b6, b7, b8, b9, b10, b11] at hc2
        refine wp_regseq ?_; refine r_mv ?_
        refine r_addS (hb := fun _ => by simp; omega) ?_
        refine r_faP ?_; refine r_ldF (v := (.str _)) ?_
        refine r_addS (hb := fun _ => by simp; omega) ?_
        refine r_mv ?_; refine reg_end (env' := [_, _, _, _, _, ⟨_, (.str _)⟩, _]) ?_; refine wp_regseq ?_; refine r_mv ?_; refine r_mv ?_; refine reg_end (env' := [_, ⟨_, (.str _)⟩, _, _, _, _, _]) ?_; refine wp_ret ?_
        refine res_of trivial q2 q3 (Eq.trans q7 (congrArg D.str ?_))
        simp [verP, verS, hc0, hc1, hc2]
      · try simp only [b0, b1, b2, b3, b4, b5, b6, b7, b8, b9, b10, b11] at hc2
        refine wp_skipseq ?_; refine wp_regseq ?_; refine r_mv ?_; refine r_mv ?_; refine reg_end (env' := [_, ⟨_, (.str _)⟩, _, _, _, _, _]) ?_; refine wp_ret ?_
        refine res_of trivial q2 q3 (Eq.trans q7 (congrArg D.str ?_))
        simp [verP, verS, hc0, hc1, hc2]
def C316 (Γ : Ctx) : Prop := ∀ (v : Ver), (v.sm) → Γ.pre 316 [Ver.D v] ∧ Γ.val 316 [Ver.D v] = .str (verP v)
/-- linchpin/linchpinref9.turn -/
def ref9_turn : AFunc := { np := 2, ns := 3, res := [⟨2, none⟩], rsh := [[.a]], body := (.seq (.reg false [⟨.mv (.c (.int .u64 0)), none⟩] [(2, 0)]) (.seq (.reg false [⟨.mv (.s 0), none⟩, ⟨.mv (.s 1), none⟩, ⟨.bin .shl (.l 0) (.l 1), none⟩, ⟨.mv (.s 0), none⟩, ⟨.mv (.s 1), none⟩, ⟨.bin .sub (.c (.int .u64 64)) (.l 4), none⟩, ⟨.bin .shr (.l 3) (.l 5), none⟩, ⟨.bin .or (.l 2) (.l 6), none⟩, ⟨.mv (.l 7), none⟩] [(2, 8)]) .ret)) }
theorem w464 {Γ : Ctx} (hm : (Γ.at 0).Mono)  (h : Int) (n : Nat) (hp0 : n ≤ 63) : wpA (Γ.at 0) ref9_turn.body (Res ref9_turn (.int .u64 (rot h n)) : Ex → List Ent → St → Prop) (env0 ref9_turn [.int .u64 h, .int .u64 (n : Nat)]) ⟨0, []⟩ := by
  show wpA _ _ _ [⟨true, .int .u64 h⟩, ⟨true, .int .u64 (n : Nat)⟩, .un] ⟨0, []⟩
  refine wp_regseq ?_; refine r_mv ?_; refine reg_end (env' := [_, _, ⟨_, (.int _ _)⟩]) ?_; refine wp_regseq ?_; refine r_mv ?_; refine r_mv ?_
  refine r_shl (shl64 h n) (hb := fun _ => by rw [show min (Int.toNat (n : Int)) (IntKind.bits .u64) = n by simp [IntKind.bits]; omega]; rfl) ?_
  refine r_mv ?_; refine r_mv ?_
  refine r_subK ((64 - n : Nat) : Int) (hb := fun _ => by rw [IntKind.wrap_u64]; omega) ?_
  refine r_shr (shr64 h (64 - n)) (hb := fun _ => by rw [show min (Int.toNat ((64 - n : Nat) : Int)) (IntKind.bits .u64) = 64 - n by simp [IntKind.bits]]; rfl) ?_
  refine r_bor (rot h n) (hb := fun _ => rfl) ?_
  refine r_mv ?_; refine reg_end (env' := [_, _, ⟨_, (.int _ _)⟩]) ?_; refine wp_ret ?_
  refine res_of trivial q2 q3 (Eq.trans q7 (congrArg (D.int .u64) ?_))
  rfl
def C464 (Γ : Ctx) : Prop := ∀ (h : Int) (n : Nat), (n ≤ 63) → Γ.pre 464 [.int .u64 h, .int .u64 (n : Nat)] ∧ Γ.val 464 [.int .u64 h, .int .u64 (n : Nat)] = .int .u64 (rot h n)
/-- linchpin/linchpinref9.Sum -/
def ref9_Sum : AFunc := { np := 1, ns := 5, res := [⟨1, none⟩], rsh := [[.a]], body := (.seq (.reg false [⟨.mv (.c (.int .u64 0)), none⟩] [(1, 0)]) (.seq (.reg false [⟨.mv (.c (.int .u64 11400714819323198485)), none⟩] [(4, 0)]) (.seq (.seq (.reg false [⟨.mv (.c (.int .i64 0)), none⟩] [(2, 0)]) (.block 0 (.loop (.seq (.seq (.reg false [⟨.mv (.s 2), none⟩, ⟨.mv (.s 0), none⟩, ⟨.len (.l 1), none⟩, ⟨.bin .lss (.l 0) (.l 2), none⟩] [(3, 3)]) (.cond (.s 3) .skip (.exit 0))) (.seq (.block 1 (.reg false [⟨.mv (.s 4), none⟩, ⟨.mv (.s 0), none⟩, ⟨.mv (.s 2), none⟩, ⟨.ia 1 (.l 1) (.l 2), none⟩, ⟨.ld 1 false (.l 3), none⟩, ⟨.cvi .u64 (.l 4), none⟩, ⟨.bin .xor (.l 0) (.l 5), none⟩, ⟨.call 464 [(.l 6), (.c (.int .u64 13))] [[.a], [.a]], none⟩, ⟨.bin .mul (.l 7) (.c (.int .u64 18397679294719823053)), none⟩, ⟨.mv (.l 8), none⟩] [(4, 9)])) (.reg false [⟨.mv (.s 2), none⟩, ⟨.bin .add (.l 0) (.c (.int .i64 1)), none⟩, ⟨.mv (.l 1), none⟩] [(2, 2)])))))) (.seq (.reg false [⟨.mv (.s 4), none⟩, ⟨.mv (.s 4), none⟩, ⟨.bin .shr (.l 1) (.c (.int .u64 29)), none⟩, ⟨.bin .xor (.l 0) (.l 2), none⟩, ⟨.mv (.l 3), none⟩] [(1, 4)]) .ret)))) }
theorem w221 {Γ : Ctx} (hm : (Γ.at 0).Mono) (h464 : C464 (Γ.at 0)) (s : Str)  : wpA (Γ.at 0) ref9_Sum.body (Res ref9_Sum (.int .u64 (sumL s)) : Ex → List Ent → St → Prop) (env0 ref9_Sum [.sl 1 ((s).map fun b => D.int .u8 b.toNat)]) ⟨0, []⟩ := by
  show wpA _ _ _ [⟨true, .sl 1 (s.map fun b => D.int .u8 b.toNat)⟩, .un, .un, .un, .un] ⟨0, []⟩
  refine wp_regseq ?_; refine r_mv ?_; refine reg_end (env' := [_, ⟨_, (.int _ _)⟩, _, _, _]) ?_; refine wp_regseq ?_; refine r_mv ?_; refine reg_end (env' := [_, _, _, _, ⟨_, (.int _ _)⟩]) ?_; refine wp_assoc ?_; refine wp_regseq ?_; refine r_mv ?_; refine reg_end (env' := [_, _, ⟨_, (.int _ _)⟩, _, _]) ?_
  refine wp_for hm (ι := Nat) (fun i => [⟨true, .sl 1 (s.map fun b => D.int .u8 b.toNat)⟩, .un, ⟨true, .int .i64 (i : Nat)⟩, .un, ⟨true, .int .u64 (sumF (s.take i))⟩]) (fun i => []) 3 (fun i => i ≤ s.length) (fun i => s.length - i) 0 (by omega) (Ghost.to [] q7 q7 q4 q1) ?_
  intro i hi
  refine wp_assoc ?_; refine wp_regseq ?_; refine r_mv ?_; refine r_mv ?_
  refine r_lenM fun hlR3_2 => ?_; replace hlR3_2 := hlR3_2 rfl rfl
  refine r_lssI ?_; refine reg_end (env' := [_, _, _, ⟨_, (.bool _)⟩, _]) ?_
  refine wp_condseq (fun hc0 => ?_) (fun hc0 => ?_)
  · try simp only [b0, b1, b2, b3, b4, b5, b6, b7, b8, b9, b10, b11] at hc0
    refine wp_skipseq ?_
    refine wp_blockseq ?_ hm
    refine wp_reg ?_; refine r_mv ?_; refine r_mv ?_; refine r_mv ?_
    first | refine r_iaM _ ?_ | refine r_iaMT ?_
    refine r_ldR (v := .int .u8 (at8 s i)) (hv := fun _ => ld8 s i) ?_
    refine r_cvi (at8 s i) (hb := fun _ => by have := at8_lt s i; rw [IntKind.wrap_u64]; omega) ?_
    refine r_bxor (xor64 (sumF (s.take i)) (at8 s i)) (hb := fun _ => rfl) ?_
    refine r_call (hc := h464 _ 13 (by omega)) ?_
    refine r_mulK (sumF (s.take (i + 1))) (hb := fun _ => by rw [sumF_succ s i (by omega)]; rfl) ?_
    refine r_mv ?_; refine reg_fin (env' := [_, _, _, _, ⟨_, (.int _ _)⟩]) ?_; refine BQ.normal ?_; refine wp_reg ?_; refine r_mv ?_; refine r_add64 ?_; refine r_mv ?_; refine reg_fin (env' := [_, _, ⟨_, (.int _ _)⟩, _, _]) ?_; refine LQ.normal ?_
    exact ⟨i + 1, (by omega), by omega, (Ghost.to [] q7 q7 q4 q1)⟩
  · try simp only [b0, b1, b2, b3, b4, b5, b6, b7, b8, b9, b10, b11] at hc0
    refine wp_exitseq ?_; refine LQ.out ?_; refine wp_regseq ?_
    have ht : s.take i = s := List.take_of_length_le (by omega)
    rw [ht]
    refine r_mv ?_; refine r_mv ?_
    refine r_shr (shr64 (sumF s) 29) (hb := fun _ => rfl) ?_
    refine r_bxor (sumL s) (hb := fun _ => rfl) ?_
    refine r_mv ?_; refine reg_end (env' := [_, ⟨_, (.int _ _)⟩, _, _, _]) ?_; refine wp_ret ?_
    refine res_of trivial q2 q3 (Eq.trans q7 (congrArg (D.int .u64) ?_))
    rfl
def C221 (Γ : Ctx) : Prop := ∀ (s : Str), Γ.pre 221 [.sl 1 ((s).map fun b => D.int .u8 b.toNat)] ∧ Γ.val 221 [.sl 1 ((s).map fun b => D.int .u8 b.toNat)] = .int .u64 (sumL s)
end Go.Abs
end
section
namespace Go.Abs
open Go
/-- linchpin/linchpinref9.Text -/
def ref9_Text : AFunc := { np := 1, ns := 5, res := [⟨1, none⟩], rsh := [[.a]], body := (.seq (.reg false [⟨.mv (.c (.str [])), none⟩] [(1, 0)]) (.seq (.reg false [⟨.mv (.c (.nils)), none⟩] [(4, 0)]) (.seq (.seq (.reg false [⟨.mv (.c (.int .i64 15)), none⟩] [(2, 0)]) (.block 0 (.loop (.seq (.seq (.reg false [⟨.mv (.s 2), none⟩, ⟨.bin .geq (.l 0) (.c (.int .i64 0)), none⟩] [(3, 1)]) (.cond (.s 3) .skip (.exit 0))) (.seq (.block 1 (.reg false [⟨.mv (.s 4), none⟩, ⟨.mv (.s 0), none⟩, ⟨.mv (.s 2), none⟩, ⟨.bin .mul (.c (.int .i64 4)) (.l 2), none⟩, ⟨.cvi .u64 (.l 3), none⟩, ⟨.bin .shr (.l 1) (.l 4), none⟩, ⟨.bin .and (.l 5) (.c (.int .u64 15)), none⟩, ⟨.ixS (.c (.str [48, 49, 50, 51, 52, 53, 54, 55, 56, 57, 97, 98, 99, 100, 101, 102])) (.l 6), none⟩, ⟨.bsl 1 (.int .u8 0) 1 [(0, (.l 7))], none⟩, ⟨.app 1 (.l 0) (.l 8), none⟩, ⟨.mv (.l 9), none⟩] [(4, 10)])) (.reg false [⟨.mv (.s 2), none⟩, ⟨.bin .sub (.l 0) (.c (.int .i64 1)), none⟩, ⟨.mv (.l 1), none⟩] [(2, 2)])))))) (.seq (.reg false [⟨.mv (.s 4), none⟩, ⟨.b2s (.l 0), none⟩, ⟨.mv (.l 1), none⟩] [(1, 2)]) .ret)))) }
theorem w313 {Γ : Ctx} (hm : (Γ.at 0).Mono)  (n : Int)  : wpA (Γ.at 0) ref9_Text.body (Res ref9_Text (.str (textL n)) : Ex → List Ent → St → Prop) (env0 ref9_Text [.int .u64 n]) ⟨0, []⟩ := by
  show wpA _ _ _ [⟨true, .int .u64 n⟩, .un, .un, .un, .un] ⟨0, []⟩
  refine wp_regseq ?_; refine r_mv ?_; refine reg_end (env' := [_, ⟨_, (.str _)⟩, _, _, _]) ?_; refine wp_regseq ?_; refine r_mv ?_; refine reg_end (env' := [_, _, _, _, ⟨_, .nils⟩]) ?_; refine wp_assoc ?_; refine wp_regseq ?_; refine r_mv ?_; refine reg_end (env' := [_, _, ⟨_, (.int _ _)⟩, _, _]) ?_
  refine wp_for hm (ι := Nat) (fun k => [⟨true, .int .u64 n⟩, .un, ⟨true, .int .i64 ((15 : Int) - (k : Nat))⟩, .un, ⟨true, .own 0 1 0 ((textL n).take k).length⟩]) (fun k => [(0, .buf 1 (((textL n).take k).map fun b => D.int .u8 b.toNat))]) 3 (fun k => k ≤ 16) (fun k => 16 - k) 0 (by omega) (Ghost.to [] q7 q7 (by repeat (first | exact RnE.nil | refine RnE.un ?_ | refine RnE.eq q7 ?_ | refine RnE.ni (Or.inr ⟨0, 1, 0, rfl⟩) ?_)) (by repeat (first | exact RnM.nil | refine RnM.mt q7 q7 q7 q7 ?_))) ?_
  intro k hk
  have htk := textL_take n k hk
  refine wp_assoc ?_; refine wp_regseq ?_; refine r_mv ?_; refine r_geqI ?_; refine reg_end (env' := [_, _, _, ⟨_, (.bool _)⟩, _]) ?_
  refine wp_condseq (fun hc0 => ?_) (fun hc0 => ?_)
  · try simp only [b0, b1, b2, b3, b4, b5, b6, b7, b8, b9, b10, b11] at hc0
    refine wp_skipseq ?_
    refine wp_blockseq ?_ hm
    refine wp_reg ?_; refine r_mv ?_; refine r_mv ?_; refine r_mv ?_; refine r_mul64 ?_
    refine r_cvi ((4 * (15 - k) : Nat) : Int) (hb := fun _ => by rw [IntKind.wrap_u64]; omega) ?_
    refine r_shr (shr64 n (4 * (15 - k))) (hb := fun _ => by rw [show min (Int.toNat ((4 * (15 - k) : Nat) : Int)) (IntKind.bits .u64) = 4 * (15 - k) by simp [IntKind.bits]; omega]; rfl) ?_
    refine r_band ((nib n (15 - k) : Nat) : Int) (hb := fun _ => nib_wrap n (15 - k)) ?_; have hnib := nib_lt n (15 - k)
    first | refine r_ixS _ ?_ | refine r_ixST ?_
    refine r_bsl [.int .u8 _] ?_; refine r_app1 (hb := by omega) ?_; refine r_mv ?_; refine reg_fin (env' := [_, _, _, _, ⟨_, (.own _ _ _ _)⟩]) ?_
    rw [← textL_succ n k (by omega)]
    refine BQ.normal ?_; refine wp_reg ?_; refine r_mv ?_; refine r_sub64 ?_; refine r_mv ?_; refine reg_fin (env' := [_, _, ⟨_, (.int _ _)⟩, _, _]) ?_; refine LQ.normal ?_
    exact ⟨k + 1, (by omega), by omega, (Ghost.to [(14, 0)] q7 q7 (by repeat (first | exact RnE.nil | refine RnE.un ?_ | refine RnE.eq q7 ?_ | refine RnE.nl (congrArg (D.int .i64) (by omega)) q7 ?_)) (by refine RnM.nl 14 q7 q7 q7 q5 ?_; exact RnM.nil))⟩
  · try simp only [b0, b1, b2, b3, b4, b5, b6, b7, b8, b9, b10, b11] at hc0
    refine wp_exitseq ?_; refine LQ.out ?_; refine wp_regseq ?_; refine r_mv ?_
    refine r_b2s (textL n) (he := fun _ => Els.all q7 (by simp)) (hs := fun _ => by rw [List.take_of_length_le (by rw [textL_len]; omega)]) ?_
    refine r_mv ?_; refine reg_end (env' := [_, ⟨_, (.str _)⟩, _, _, _]) ?_; refine wp_ret ?_
    refine res_of trivial q2 q3 (Eq.trans q7 (congrArg D.str ?_))
    rfl
def C313 (Γ : Ctx) : Prop := ∀ (n : Int), Γ.pre 313 [.int .u64 n] ∧ Γ.val 313 [.int .u64 n] = .str (textL n)
/-- linchpin/linchpinref10.EnvMay -/
def ref10_EnvMay : AFunc := { np := 1, ns := 6, res := [⟨1, none⟩], rsh := [[.a]], body := (.seq (.reg false [⟨.box 3 (.s 0), none⟩, ⟨.mv (.c (.bool false)), none⟩] [(4, 0), (1, 1)]) (.seq (.seq (.reg false [⟨.mv (.c (.int .i64 0)), none⟩] [(2, 0)]) (.block 0 (.loop (.seq (.seq (.reg false [⟨.mv (.s 2), none⟩, ⟨.bin .lss (.l 0) (.c (.int .i64 3)), none⟩] [(3, 1)]) (.cond (.s 3) .skip (.exit 0))) (.seq (.block 1 (.seq (.reg false [⟨.mv (.s 2), none⟩, ⟨.fa 0 (.s 4), none⟩, ⟨.iaP 3 1 (.l 1) (.l 0), none⟩, ⟨.ld 1 false (.l 2), none⟩, ⟨.bin .neq (.l 3) (.c (.str [])), none⟩, ⟨.mv (.l 4), none⟩, ⟨.mv (.s 2), some (5, true)⟩, ⟨.fa 0 (.s 4), some (5, true)⟩, ⟨.iaP 3 1 (.l 7) (.l 6), some (5, true)⟩, ⟨.ld 1 false (.l 8), some (5, true)⟩, ⟨.call 357 [(.l 9)] [[.a]], some (5, true)⟩, ⟨.un .not (.l 10), some (5, true)⟩, ⟨.pick (.l 5) (.l 11) (.c (.bool false)), none⟩] [(5, 12)]) (.cond (.s 5) (.seq (.reg false [⟨.mv (.c (.bool false)), none⟩] [(1, 0)]) .ret) .skip))) (.reg false [⟨.mv (.s 2), none⟩, ⟨.bin .add (.l 0) (.c (.int .i64 1)), none⟩, ⟨.mv (.l 1), none⟩] [(2, 2)])))))) (.seq (.reg false [⟨.mv (.c (.bool true)), none⟩] [(1, 0)]) .ret))) }
theorem w144 {Γ : Ctx} (hm : (Γ.at 0).Mono) (h357 : C357 (Γ.at 0)) (e : Env)  : wpA (Γ.at 0) ref10_EnvMay.body (Res ref10_EnvMay (.bool (envB e)) : Ex → List Ent → St → Prop) (env0 ref10_EnvMay [Env.D e]) ⟨0, []⟩ := by
  show wpA _ _ _ [⟨true, Env.D e⟩, .un, .un, .un, .un, .un] ⟨0, []⟩
  refine wp_regseq ?_; refine r_box ?_; refine r_mv ?_; refine reg_end (env' := [_, ⟨_, (.bool _)⟩, _, _, ⟨_, _⟩, _]) ?_; refine wp_assoc ?_; refine wp_regseq ?_; refine r_mv ?_; refine reg_end (env' := [_, _, ⟨_, (.int _ _)⟩, _, _, _]) ?_
  refine wp_for hm (ι := Nat) (fun i => [.un, .un, ⟨true, .int .i64 (i : Nat)⟩, .un, ⟨true, .ptr 0 3 0 0⟩, .un]) (fun i => [(0, .buf 3 [Env.D e])]) 3 (fun i => i ≤ 3 ∧ envB e = allF (fun i => decide (e.at i = []) || wordB (e.at i)) i 3) (fun i => 3 - i) 0 ⟨by omega, rfl⟩ (Ghost.to [(0, 0)] q7 q7 q4 q1) ?_
  rintro i ⟨hi, hr⟩
  refine wp_assoc ?_; refine wp_regseq ?_; refine r_mv ?_; refine r_lssI ?_; refine reg_end (env' := [_, _, _, ⟨_, (.bool _)⟩, _, _]) ?_
  refine wp_condseq (fun hc0 => ?_) (fun hc0 => ?_)
  · try simp only [b0, b1, b2, b3, b4, b5, b6, b7, b8, b9, b10, b11] at hc0
    refine wp_skipseq ?_
    refine wp_blockseq ?_ hm
    refine wp_regseq ?_; refine r_mv ?_; refine r_faP ?_; refine r_iaPP i ?_
    refine r_ldF (v := .str (e.at i)) (hv := fun _ => Env.ld e (by omega)) ?_
    refine r_neqS ?_; refine r_mv ?_; refine r_mv ?_; refine r_faP ?_; refine r_iaPP i ?_
    refine r_ldF (v := .str (e.at i)) (hv := fun _ => Env.ld e (by omega)) ?_
    refine r_call (hc := h357 _) ?_; refine r_not ?_; refine r_and ?_; refine reg_end (env' := [_, _, _, _, _, ⟨_, (.bool _)⟩]) ?_
    refine wp_cond (fun hc1 => ?_) (fun hc1 => ?_)
    · simp only [Bool.and_eq_true, Bool.not_eq_true', decide_eq_false_iff_not] at hc1
      refine wp_regseq ?_; refine r_mv ?_; refine reg_end (env' := [_, ⟨_, (.bool _)⟩, _, _, _, _]) ?_; refine wp_ret ?_; refine BQ.ret ?_; refine LQ.ret ?_
      refine res_of trivial q2 q3 (Eq.trans q7 (congrArg D.bool ?_))
      rw [hr, allF_lt (by omega)]; rw [decide_eq_false hc1.1, hc1.2]; rfl
    · simp only [Bool.and_eq_false_iff, Bool.not_eq_false', decide_eq_true_eq] at hc1
      refine wp_skip ?_; refine BQ.normal ?_; refine wp_reg ?_; refine r_mv ?_; refine r_add64 ?_; refine r_mv ?_; refine reg_fin (env' := [_, _, ⟨_, (.int _ _)⟩, _, _, _]) ?_; refine LQ.normal ?_
      exact ⟨i + 1, ⟨by omega, by rw [hr, allF_lt (by omega)]; rw [show (decide (e.at i = []) || wordB (e.at i)) = true by rw [Bool.or_eq_true, decide_eq_true_eq]; exact hc1]; rfl⟩, by omega, (Ghost.to [(0, 0)] q7 q7 q4 q1)⟩
  · try simp only [b0, b1, b2, b3, b4, b5, b6, b7, b8, b9, b10, b11] at hc0
    refine wp_exitseq ?_; refine LQ.out ?_; refine wp_regseq ?_; refine r_mv ?_; refine reg_end (env' := [_, ⟨_, (.bool _)⟩, _, _, _, _]) ?_; refine wp_ret ?_
    refine res_of trivial q2 q3 (Eq.trans q7 (congrArg D.bool ?_))
    rw [hr, allF_ge (by omega)]
def C144 (Γ : Ctx) : Prop := ∀ (e : Env), Γ.pre 144 [Env.D e] ∧ Γ.val 144 [Env.D e] = .bool (envB e)
end Go.Abs
end
