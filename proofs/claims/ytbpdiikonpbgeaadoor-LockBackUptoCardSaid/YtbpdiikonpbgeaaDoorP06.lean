/- A part of the proofs of the statements of package linchpinlaw33: LSpec5, LAsm, LExt, LQ, T1, T2, T3, T4, T5, T6, T7. -/
import Derived.KernelRfl
import Derived.Test.YtbpdiikonpbgeaaDoorP05
set_option linter.all false
section
namespace Go.Abs
def few1 (x : Lkd) : Bool := !(decide (30 < x.feats.length) || decide (100 < x.name.length) || decide (100 < x.shelf.length))
def fewB (l : Lck) : Bool := decide (l.lines.length ≤ 60) && allF (fun i => few1 l.lines[i]!) 0 l.lines.length
def awL : Lck := ⟨⟨[], [], []⟩, [⟨[97, 110, 116], ⟨1, 0, 0, [], []⟩, mainW, 5, [dflW]⟩]⟩
def awF : Str := firstW ++ [10] ++ [112, 108, 97, 116, 102, 111, 114, 109, 32, 45, 32, 45, 32, 45, 10] ++ [97, 110, 116, 32, 49, 46, 48, 46, 48, 32, 109, 97, 105, 110, 32, 48, 48, 48, 48, 48, 48, 48, 48, 48, 48, 48, 48, 48, 48, 48, 53, 32, 100, 101, 102, 97, 117, 108, 116, 10]
theorem aw_body : bodyS awL = awF := by rfl
theorem aw_may : lckB awL = true := by rfl
theorem aw_find : findI awL.lines [97, 110, 116] 0 = 0 := by rfl
theorem aw_prS : prS awL = lckS awL := by rfl
theorem aw_prE : prE awL = 0 := by rfl
theorem aw_parse : parseX (lckS awL) = (awL, 0, 0) := by kernel_rfl
end Go.Abs
namespace Go.Abs
theorem Kp.eq (a b : Kp) : eqDs (Kp.D a).cells (Kp.D b).cells = decide (a = b) := by
  obtain ⟨n1, ⟨a1, a2, a3, a4, a5⟩⟩ := a
  obtain ⟨n2, ⟨b1, b2, b3, b4, b5⟩⟩ := b
  simp only [Kp.D, D.cells, eqDs, eqD_str, eqD_int, Kp.mk.injEq, Ver.mk.injEq, Bool.and_true]
  simp only [Bool.decide_and]
theorem prS_len (l : Lck) : (prS l).length ≤ 8192 := by
  unfold prS; split
  · rename_i h; exact h.2
  · simp
theorem aw_p : parseX (prS awL) = (awL, 0, 0) := by rw [aw_prS]; exact aw_parse
theorem aw_sm : awL.sm := by
  refine ⟨by decide, ?_, ?_⟩
  · intro x hx
    simp only [awL, List.mem_singleton] at hx
    subst hx
    exact ⟨⟨by decide, by decide⟩, by decide, by decide, by decide, by decide⟩
  · intro i
    match i with
    | 0 => decide
    | 1 => decide
    | _ + 2 => show ([] : Str).length ≤ _; decide
theorem aw_text : prS awL = awF ++ [115, 117, 109, 32] ++ textL (sumL awF) ++ [10] := by rw [aw_prS]; unfold lckS; rw [aw_body]
theorem get_le {l : List Str} {B : Nat} (h : ∀ t ∈ l, t.length ≤ B) (i : Nat) : (l[i]!).length ≤ B := by
  by_cases hi : i < l.length
  · simp only [hi, getElem!_pos]; exact h _ (List.getElem_mem _)
  · simp only [List.getElem!_eq_getElem?_getD, List.getElem?_eq_none (Nat.le_of_not_lt hi), Option.getD_none]
    exact Nat.zero_le _
theorem ver_ok (i : Nat) : (versM[i]!).pre.length ≤ 3 ∧ (versM[i]!).build.length ≤ 2 := by
  by_cases hi : i < 4
  · have : ∀ j : Fin 4, (versM[j.1]!).pre.length ≤ 3 ∧ (versM[j.1]!).build.length ≤ 2 := by decide
    exact this ⟨i, hi⟩
  · have : versM[i]! = default := by
      simp only [List.getElem!_eq_getElem?_getD, List.getElem?_eq_none (show versM.length ≤ i by simp [versM]; omega), Option.getD_none]
    rw [this]; decide
/-- a line such as the generators make -/
structure Lkd.ok (n : Nat) (x : Lkd) : Prop where
  pre : x.v.pre.length ≤ 3
  build : x.v.build.length ≤ 2
  name : x.name.length ≤ 16
  shelf : x.shelf.length ≤ 16
  nf : x.feats.length ≤ n
  ft : ∀ t ∈ x.feats, t.length ≤ 16
  sum : 0 ≤ x.sum ∧ x.sum < 18446744073709551616
structure Lck.ok (n : Nat) (l : Lck) : Prop where
  len : l.lines.length ≤ 4
  lines : ∀ x ∈ l.lines, x.ok n
  env : ∀ i, (l.env.at i).length ≤ 16
theorem Lck.ok.sm {n : Nat} {l : Lck} (h : l.ok n) (hn : n ≤ 1000) : l.sm := by
  refine ⟨by have := h.len; omega, fun x hx => ?_, fun i => by have := h.env i; omega⟩
  have k := h.lines x hx
  have k1 := k.pre; have k2 := k.build; have k3 := k.name; have k4 := k.shelf; have k5 := k.nf
  exact ⟨⟨by omega, by omega⟩, by omega, by omega, by omega, fun t ht => by have := k.ft t ht; omega⟩
theorem envM_ok (n : Int) (i : Nat) : ((envM n).at i).length ≤ 16 := by
  have h : ∀ t ∈ envsM, t.length ≤ 16 := by decide
  match i with
  | 0 => exact get_le h _
  | 1 => show ([] : Str).length ≤ _; decide
  | _ + 2 => show ([] : Str).length ≤ _; decide
theorem featM_ok (g : Gs) : (featM g).1.length ≤ 2 ∧ ∀ t ∈ (featM g).1, t.length ≤ 16 := by
  have h1 : ([dflW].length ≤ 2 ∧ ∀ t ∈ [dflW], t.length ≤ 16) := by decide
  have h2 : ([dflW, fW].length ≤ 2 ∧ ∀ t ∈ [dflW, fW], t.length ≤ 16) := by decide
  have h3 : ∀ t ∈ [fW, dflW], t.length ≤ 16 := by decide
  unfold featM
  split
  · exact h1
  · split
    · exact h2
    · split
      · exact ⟨by simp [List.length_drop], fun t ht => h3 t (List.mem_of_mem_drop ht)⟩
      · exact ⟨by simp, by simp⟩
theorem lineM_ok (i : Nat) (g : Gs) : (lineM i g).1.ok 2 := by
  have hn : ∀ t ∈ namesM, t.length ≤ 16 := by decide
  have hs : ∀ t ∈ shelM, t.length ≤ 16 := by decide
  have hv := ver_ok (g.val 4).toNat
  simp only [lineM]
  have hb2 := featM_ok (sumM g.nxt.nxt.nxt shelM[(g.nxt.val 3).toNat]! (g.nxt.nxt.val 1073741824)).2
  generalize featM _ = b at hb2
  refine ⟨hv.1, hv.2, get_le hn _, get_le hs _, hb2.1, hb2.2, ?_⟩
  have hr := g.nxt.nxt.val_range 1073741824 (by omega)
  simp only [sumM]
  split
  · simp only; split <;> omega
  · simp only; omega
theorem loopM_ok : ∀ (n i : Nat) (g : Gs) (ls : List Lkd), (∀ x ∈ ls, x.ok 2) → (∀ x ∈ loopM n i g ls, x.ok 2) ∧ (loopM n i g ls).length ≤ ls.length + n
  | 0, _, _, ls, h => ⟨h, by simp [loopM]⟩
  | n + 1, i, g, ls, h => by
    simp only [loopM]
    have hs : (∀ x ∈ (stepM i g ls).2, x.ok 2) ∧ (stepM i g ls).2.length ≤ ls.length + 1 := by
      unfold stepM
      split
      · exact ⟨h, by simp⟩
      · refine ⟨fun x hx => ?_, by simp⟩
        rcases List.mem_append.1 hx with hx | hx
        · exact h x hx
        · rw [List.mem_singleton] at hx; subst hx; exact lineM_ok i _
    obtain ⟨a, b⟩ := loopM_ok n (i + 1) (stepM i g ls).1 (stepM i g ls).2 hs.1
    exact ⟨a, by omega⟩
theorem lockM_ok (ks : List Int) : (lockM ks).ok 2 := by
  obtain ⟨a, b⟩ := loopM_ok 4 0 (⟨ks, 0⟩ : Gs).nxt [] (by simp)
  exact ⟨by simpa [lockM] using b, a, envM_ok _⟩
theorem Lkd.ok.mono {n m : Nat} {x : Lkd} (h : x.ok n) (hm : n ≤ m) : x.ok m := ⟨h.pre, h.build, h.name, h.shelf, Nat.le_trans h.nf hm, h.ft, h.sum⟩
end Go.Abs
end
section
namespace Go.Abs
def unS : D → Str
  | .str s => s
  | _ => []
def unI : D → Int
  | .int _ n => n
  | _ => 0
def unL {α : Type} (q : D → α) : D → List α
  | .sl _ es => es.map q
  | _ => []
theorem unL_map {α : Type} {q : D → α} {p : α → D} (h : ∀ x, q (p x) = x) (k : Nat) (xs : List α) : unL q (.sl k (xs.map p)) = xs := by
  simp only [unL, List.map_map]
  conv => rhs; rw [← List.map_id xs]
  exact List.map_congr_left fun x _ => h x
def unVer : D → Ver
  | .agg [a, b, c, d, e] => ⟨unI a, unI b, unI c, unS d, unS e⟩
  | _ => default
def unEnv : D → Env
  | .agg [a, b, c] => ⟨unS a, unS b, unS c⟩
  | _ => default
def unLkd : D → Lkd
  | .agg [a, b, c, d, e, f, g, h, i] => ⟨unS a, ⟨unI b, unI c, unI d, unS e, unS f⟩, unS g, unI h, unL unS i⟩
  | _ => default
theorem unLkd_D (x : Lkd) : unLkd (Lkd.D x) = x := by
  show (⟨x.name, x.v, x.shelf, x.sum, unL unS (.sl 1 (x.feats.map D.str))⟩ : Lkd) = x
  rw [unL_map (fun _ => rfl)]
def unLck : D → Lck
  | .agg [a, b, c, d] => ⟨⟨unS a, unS b, unS c⟩, unL unLkd d⟩
  | _ => default
theorem unLck_D (l : Lck) : unLck (Lck.D l) = l := by
  show (⟨l.env, unL unLkd (.sl 9 (l.lines.map Lkd.D))⟩ : Lck) = l
  rw [unL_map unLkd_D]
def unGs : D → Gs
  | .agg [a, b] => ⟨unL unI a, unI b⟩
  | _ => default
theorem unGs_D (g : Gs) : unGs (Gs.D g) = g := by
  show (⟨unL unI (.sl 1 (g.l.map (D.int .i64))), g.i⟩ : Gs) = g
  rw [unL_map (fun _ => rfl)]
def unRdr : D → Rdr
  | .agg [a, b, c] => ⟨unS a, (unI b).toNat, (unI c).toNat⟩
  | _ => ⟨[], 0, 0⟩
theorem unRdr_D (r : Rdr) : unRdr (Rdr.D r) = r := rfl
def unBytes (d : D) : Str := unL (fun e => UInt8.ofNat (unI e).toNat) d
theorem unBytes_D (s : Str) : unBytes (.sl 1 (s.map fun b => D.int .u8 b.toNat)) = s :=
  unL_map (q := fun e => UInt8.ofNat (unI e).toNat) (p := fun b : UInt8 => D.int .u8 b.toNat) (fun b => by simp [unI]) 1 s
def unSep (d : D) : UInt8 := (unS d).headD 0
/-- the name that a closure holds -/
def unFn : D → Str
  | .fn _ [.ref _ [.str s] _ _] => s
  | _ => []
def unRf : D → Str
  | .ref _ [.str s] _ _ => s
  | _ => []
def lk {α : Type} : List (Nat × α) → Nat → α → α
  | [], _, d => d
  | (a, b) :: r, n, d => bif Nat.beq a n then b else lk r n d
/-- the rows: depth, what must hold, the answer -/
structure Row where
  key : Nat
  pre : List D → Prop
  val : List D → D
structure RowF where
  pre : D → List D → Prop
  val : D → List D → D
  new : D → List D → D
def Row.no : Row := ⟨0, fun _ => False, fun _ => .any⟩
def RowF.no : RowF := ⟨fun _ _ => False, fun _ _ => .any, fun _ _ => .any⟩
def ctxOf (t : List (Nat × Row)) (tf : List (Nat × RowF)) : Ctx where
  pre n := (lk t n .no).pre
  val n := (lk t n .no).val
  tr _ _ _ _ := False
  fp n := (lk tf n .no).pre
  fv n := (lk tf n .no).val
  fs n := (lk tf n .no).new
  lo := 0
def rankOf (t : List (Nat × Row)) : Rank := ⟨fun n => (lk t n .no).key, fun _ _ => 0, fun _ _ _ => 0⟩
theorem under_mono (t : List (Nat × Row)) (tf : List (Nat × RowF)) (R : Rank) (k u n : Nat) : (((ctxOf t tf).under R k u).at n).Mono := by
  intro f ds st K K' _ h
  exact h.2.elim
section
variable [Glob] {P : Program} {ν : List (Nat × Nat)} {eff : List Nat} {Γ : Ctx}
/-- what a function owes to the table -/
def Good (P : Program) (ν : List (Nat × Nat)) (Γ' : Ctx) (eff : List Nat) (pre : List D → Prop) (val : List D → D) (fid : Nat) : Prop :=
  ∀ ds, pre ds → Ok P ν eff Γ' → ∀ (x : X) (args : Array Value), args.size = ds.length → (∀ i, i < ds.length → RD ν x (args.getD i undef) (ds.getD i .any)) → noLocs ds = true →
    (∀ b, x.I b → b < x.w.heap.size) → Glob.gd x → Does P x (fun v x' => PStep x x' ∧ RD ν x' v (val ds)) ((callFunc fid args).run P x.w)
theorem fn_split {fid : Nat} {af : AFunc} (hb : (P.funcs[fid]?).bind (compile P ν eff) = some af) (hn : (P.funcs[fid]?).map (fun f => f.name == "runtime.NumGoroutine") = some false) : ∃ fn, P.funcs[fid]? = some fn ∧ compile P ν eff fn = some af ∧ (fn.name == "runtime.NumGoroutine") = false := by
  cases h : P.funcs[fid]? with
  | none => rw [h] at hb; cases hb
  | some fn =>
    rw [h] at hb hn
    exact ⟨fn, rfl, hb, Option.some.inj hn⟩
theorem good_of {fid : Nat} {af : AFunc} {pre : List D → Prop} {val : List D → D} (hmix : P.follows .mixedOrders = true) (hb : (P.funcs[fid]?).bind (compile P ν eff) = some af) (hn : (P.funcs[fid]?).map (fun f => f.name == "runtime.NumGoroutine") = some false)
    (hw : ∀ ds, pre ds → ds.length = af.np ∧ wpA (Γ.at 0) af.body (Res af (val ds)) (env0 af ds) ⟨0, []⟩) : Good P ν Γ eff pre val fid := by
  intro ds hp hok x args hl hargs hnl himm hgd
  obtain ⟨h1, h2⟩ := hw ds hp
  obtain ⟨fn, hf, hc, hn⟩ := fn_split hb hn
  obtain ⟨body, c1, _⟩ := compile_spec hc
  exact .inr ⟨fid, args, callFunc_enter hf hn (by rw [c1]; rfl) args x.w, fn_pure hok hmix hf hc hl hargs hnl himm hgd h1 h2⟩
def GoodF (P : Program) (ν : List (Nat × Nat)) (Γ' : Ctx) (eff : List Nat) (pre : D → List D → Prop) (val new : D → List D → D) (fid : Nat) : Prop :=
  ∀ d ds, pre d ds → Ok P ν eff Γ' → ∀ (x : X) (f : Nat → Option Blk) (args : Array Value) (l k : Nat), args.size = ds.length + 1 →
      RD ν x (args.getD 0 undef) (.ptr l k 0 0) → (∀ i, i < ds.length → RD ν x (args.getD (i + 1) undef) (ds.getD i .any)) → Sim ν x f → f l = some (.buf k [d]) → d.noLoc = true → noLocs ds = true →
      Does P x (fun v x' => Step x x' ∧ RD ν x' v (val d ds) ∧ Sim ν x' (fun l' => if l' = l then some (.buf k [new d ds]) else f l') ∧ x'.β = x.β) ((callFunc fid args).run P x.w)
theorem goodF_of {fid : Nat} {af : AFunc} {pre : D → List D → Prop} {val new : D → List D → D} (k0 : Nat) (hmix : P.follows .mixedOrders = true) (hb : (P.funcs[fid]?).bind (compile P ν eff) = some af) (hn : (P.funcs[fid]?).map (fun f => f.name == "runtime.NumGoroutine") = some false)
    (hw : ∀ d ds, pre d ds → (ds.length + 1 = af.np ∧ d.cells.length = k0) ∧ wpA (Γ.at 1) af.body (ResF af k0 (val d ds) (new d ds)) (env0 af (.ptr 0 k0 0 0 :: ds)) ⟨1, [(0, .buf k0 [d])]⟩) : GoodF P ν Γ eff pre val new fid := by
  intro d ds hp hok x f args l k hl h0 hargs hs hfl hd hnl
  obtain ⟨⟨h1, hk⟩, h2⟩ := hw d ds hp
  obtain ⟨fn, hf, hc, hn⟩ := fn_split hb hn
  obtain ⟨body, c1, _⟩ := compile_spec hc
  have hkk : k = k0 := by
    generalize args.getD 0 undef = v0 at h0
    cases h0 with
    | ptr _ _ _ _ b base tot at_ hβ hat =>
      obtain ⟨p1, p2, c, T, fr, p3, p4, p5, p6⟩ := (hs.own l _ b base tot hfl hβ).2
      have := (p6 0 (by simp)).1
      simp only [List.getD_cons_zero] at this
      omega
  subst hkk
  exact .inr ⟨fid, args, callFunc_enter hf hn (by rw [c1]; rfl) args x.w, fn_effF hok hmix hf hc hl h0 hargs hs hfl hd hnl h1 h2⟩
end
end Go.Abs
end
section
namespace Go.Abs
open Go
def C336 (Γ : Ctx) : Prop := ∀ (n : Int), (0 ≤ n ∧ n ≤ 9999) → Γ.pre 336 [.int .i64 n] ∧ Γ.val 336 [.int .i64 n] = .str (decN n.toNat)
def C242 (Γ : Ctx) : Prop := ∀ (l : List Str) (sep : Str), (l.length ≤ 1048600) → (sep.length ≤ 4) → (∀ t ∈ l, t.length ≤ 2097200) → Γ.pre 242 [.sl 1 (l.map D.str), .str sep] ∧ Γ.val 242 [.sl 1 (l.map D.str), .str sep] = .str (joinS sep l)
def C124 (Γ : Ctx) : Prop := ∀ (s : Str) (b : UInt8), (s.length ≤ 1048576) → Γ.pre 124 [.str s, .str [b]] ∧ Γ.val 124 [.str s, .str [b]] = .sl 1 ((splitL s b.toNat).map D.str)
def C487 (Γ : Ctx) : Prop := ∀ (s : Str) (b : UInt8), (s.length ≤ 1048576) → Γ.pre 487 [.str s, .str [b]] ∧ Γ.val 487 [.str s, .str [b]] = .tup [.str (cutL s b).1, .str (cutL s b).2.1, .bool (cutL s b).2.2]
def C254 (Γ : Ctx) : Prop := ∀ (s : Str) (p : Str), (s.length ≤ 1048576) → (p.length ≤ 1048576) → Γ.pre 254 [.str s, .str p] ∧ Γ.val 254 [.str s, .str p] = .tup [.str (cutPre s p).1, .bool (cutPre s p).2]
def C491 (Γ : Ctx) : Prop := ∀ (s : Str) (b : UInt8), (s.length ≤ 1048576) → Γ.pre 491 [.str s, .str [b]] ∧ Γ.val 491 [.str s, .str [b]] = .bool (s.contains b)
end Go.Abs
end
section
namespace Go.Abs
theorem q7 {p : Prop} (h : p := by exact rfl) : p := h
theorem q6 {p : Prop} (h : p := by repeat (first | exact RnE.nil | refine RnE.un ?_ | refine RnE.eq (by exact rfl) ?_)) : p := h
theorem q5 {p : Prop} (h : p := by first | exact rfl | exact noLocs_map (fun _ => rfl) _) : p := h
theorem q4 {p : Prop} (h : p := by repeat (first | exact RnE.nil | refine RnE.un ?_ | refine RnE.eq (by exact rfl) ?_ | refine RnE.nl (by exact rfl) (by exact rfl) ?_)) : p := h
theorem q3 {p : Prop} (h : p := by repeat' first | exact trivial | exact rfl | refine And.intro ?_ ?_) : p := h
theorem q2 {p : Prop} (h : p := by repeat' first | exact trivial | exact rfl | exact Nat.le_refl _ | refine And.intro ?_ ?_) : p := h
theorem q1 {p : Prop} (h : p := by repeat (first | exact RnM.nil | refine RnM.idn (by exact rfl) (by exact rfl) (by first | exact rfl | exact noLocs_map (fun _ => rfl) _) ?_ | refine RnM.ide (by exact rfl) (by exact rfl) (by exact rfl) ?_ | refine RnM.idi (by exact rfl) (by exact rfl) (by exact rfl) (by exact rfl) ?_)) : p := h
theorem b0 {p : Prop} [Decidable p] : (decide p = true) = p := decide_eq_true_eq
theorem b1 {p : Prop} [Decidable p] : decide p = false ↔ ¬ p := decide_eq_false_iff_not
theorem b2 (b : Bool) : ((!b) = true) = (b = false) := Bool.not_eq_true' b
theorem b3 (b : Bool) : ((!b) = false) = (b = true) := Bool.not_eq_false' b
theorem b4 (b : Bool) : (¬ (b = false)) = (b = true) := Bool.not_eq_false b
theorem b5 (a b : Bool) : ((a || b) = true) = (a = true ∨ b = true) := Bool.or_eq_true a b
theorem b6 {a b : Bool} : (a || b) = false ↔ a = false ∧ b = false := Bool.or_eq_false_iff
theorem b7 (a b : Bool) : ((a && b) = true) = (a = true ∧ b = true) := Bool.and_eq_true a b
theorem b8 {a b : Bool} : (a && b) = false ↔ a = false ∨ b = false := Bool.and_eq_false_iff
theorem b9 (b : Bool) : (¬ (b = true)) = (b = false) := Bool.not_eq_true b
theorem b10 (b : Bool) : (true && b) = b := Bool.true_and b
theorem b11 (b : Bool) : (b && true) = b := Bool.and_true b
end Go.Abs
end
section
namespace Go.Abs
open Go
end Go.Abs
end
section
namespace Go.Abs
open Go
end Go.Abs
end
section
namespace Go.Abs
open Go
/-- linchpin/linchpinref9.turn -/
def ref9_turn : AFunc := { np := 2, ns := 3, res := [⟨2, none⟩], rsh := [[.a]], body := (.seq (.reg false [⟨.mv (.c (.int .u64 0)), none⟩] [(2, 0)]) (.seq (.reg false [⟨.mv (.s 0), none⟩, ⟨.mv (.s 1), none⟩, ⟨.bin .shl (.l 0) (.l 1), none⟩, ⟨.mv (.s 0), none⟩, ⟨.mv (.s 1), none⟩, ⟨.bin .sub (.c (.int .u64 64)) (.l 4), none⟩, ⟨.bin .shr (.l 3) (.l 5), none⟩, ⟨.bin .or (.l 2) (.l 6), none⟩, ⟨.mv (.l 7), none⟩] [(2, 8)]) .ret)) }
theorem w464 {Γ : Ctx} (hm : (Γ.at 0).Mono)  (h : Int) (n : Nat) (hp0 : n ≤ 63) : wpA (Γ.at 0) ref9_turn.body (Res ref9_turn (.int .u64 (rot h n)) : Ex → List Ent → St → Prop) (env0 ref9_turn [.int .u64 h, .int .u64 (n : Nat)]) ⟨0, []⟩ := by
  show wpA _ _ _ [⟨true, .int .u64 h⟩, ⟨true, .int .u64 (n : Nat)⟩, .un] ⟨0, []⟩
  refine wp_regseq ?_; refine r_mv ?_; refine reg_end (env' := [_, _, ⟨_, (.int _ _)⟩]) ?_; refine wp_regseq ?_; refine r_mv ?_; refine r_mv ?_
  refine r_shl (shl64 h n) (hb := fun _ => by rw [show min (Int.toNat (n : Int)) (IntKind.bits .u64) = n by simp [IntKind.bits]; omega]; rfl) ?_
  refine r_mv ?_; refine r_mv ?_
  refine r_subK ((64 - n : Nat) : Int) (hb := fun _ => by rw [IntKind.wrap_u64]; omega) ?_
  refine r_shr (shr64 h (64 - n)) (hb := fun _ => by rw [show min (Int.toNat ((64 - n : Nat) : Int)) (IntKind.bits .u64) = 64 - n by simp [IntKind.bits]]; rfl) ?_
  refine r_bor (rot h n) (hb := fun _ => rfl) ?_
  refine r_mv ?_; refine reg_end (env' := [_, _, ⟨_, (.int _ _)⟩]) ?_; refine wp_ret ?_
  refine res_of trivial q2 q3 (Eq.trans q7 (congrArg (D.int .u64) ?_))
  rfl
def C464 (Γ : Ctx) : Prop := ∀ (h : Int) (n : Nat), (n ≤ 63) → Γ.pre 464 [.int .u64 h, .int .u64 (n : Nat)] ∧ Γ.val 464 [.int .u64 h, .int .u64 (n : Nat)] = .int .u64 (rot h n)
/-- linchpin/linchpinref9.Sum -/
def ref9_Sum : AFunc := { np := 1, ns := 5, res := [⟨1, none⟩], rsh := [[.a]], body := (.seq (.reg false [⟨.mv (.c (.int .u64 0)), none⟩] [(1, 0)]) (.seq (.reg false [⟨.mv (.c (.int .u64 11400714819323198485)), none⟩] [(4, 0)]) (.seq (.seq (.reg false [⟨.mv (.c (.int .i64 0)), none⟩] [(2, 0)]) (.block 0 (.loop (.seq (.seq (.reg false [⟨.mv (.s 2), none⟩, ⟨.mv (.s 0), none⟩, ⟨.len (.l 1), none⟩, ⟨.bin .lss (.l 0) (.l 2), none⟩] [(3, 3)]) (.cond (.s 3) .skip (.exit 0))) (.seq (.block 1 (.reg false [⟨.mv (.s 4), none⟩, ⟨.mv (.s 0), none⟩, ⟨.mv (.s 2), none⟩, ⟨.ia 1 (.l 1) (.l 2), none⟩, ⟨.ld 1 false (.l 3), none⟩, ⟨.cvi .u64 (.l 4), none⟩, ⟨.bin .xor (.l 0) (.l 5), none⟩, ⟨.call 464 [(.l 6), (.c (.int .u64 13))] [[.a], [.a]], none⟩, ⟨.bin .mul (.l 7) (.c (.int .u64 18397679294719823053)), none⟩, ⟨.mv (.l 8), none⟩] [(4, 9)])) (.reg false [⟨.mv (.s 2), none⟩, ⟨.bin .add (.l 0) (.c (.int .i64 1)), none⟩, ⟨.mv (.l 1), none⟩] [(2, 2)])))))) (.seq (.reg false [⟨.mv (.s 4), none⟩, ⟨.mv (.s 4), none⟩, ⟨.bin .shr (.l 1) (.c (.int .u64 29)), none⟩, ⟨.bin .xor (.l 0) (.l 2), none⟩, ⟨.mv (.l 3), none⟩] [(1, 4)]) .ret)))) }
theorem w221 {Γ : Ctx} (hm : (Γ.at 0).Mono) (h464 : C464 (Γ.at 0)) (s : Str)  : wpA (Γ.at 0) ref9_Sum.body (Res ref9_Sum (.int .u64 (sumL s)) : Ex → List Ent → St → Prop) (env0 ref9_Sum [.sl 1 ((s).map fun b => D.int .u8 b.toNat)]) ⟨0, []⟩ := by
  show wpA _ _ _ [⟨true, .sl 1 (s.map fun b => D.int .u8 b.toNat)⟩, .un, .un, .un, .un] ⟨0, []⟩
  refine wp_regseq ?_; refine r_mv ?_; refine reg_end (env' := [_, ⟨_, (.int _ _)⟩, _, _, _]) ?_; refine wp_regseq ?_; refine r_mv ?_; refine reg_end (env' := [_, _, _, _, ⟨_, (.int _ _)⟩]) ?_; refine wp_assoc ?_; refine wp_regseq ?_; refine r_mv ?_; refine reg_end (env' := [_, _, ⟨_, (.int _ _)⟩, _, _]) ?_
  refine wp_for hm (ι := Nat) (fun i => [⟨true, .sl 1 (s.map fun b => D.int .u8 b.toNat)⟩, .un, ⟨true, .int .i64 (i : Nat)⟩, .un, ⟨true, .int .u64 (sumF (s.take i))⟩]) (fun i => []) 3 (fun i => i ≤ s.length) (fun i => s.length - i) 0 (by omega) (Ghost.to [] q7 q7 q4 q1) ?_
  intro i hi
  refine wp_assoc ?_; refine wp_regseq ?_; refine r_mv ?_; refine r_mv ?_
  refine r_lenM fun hlR3_2 => ?_; replace hlR3_2 := hlR3_2 rfl rfl
  refine r_lssI ?_; refine reg_end (env' := [_, _, _, ⟨_, (.bool _)⟩, _]) ?_
  refine wp_condseq (fun hc0 => ?_) (fun hc0 => ?_)
  · try simp only [b0, b1, b2, b3, b4, b5, b6, b7, b8, b9, b10, b11] at hc0
    refine wp_skipseq ?_
    refine wp_blockseq ?_ hm
    refine wp_reg ?_; refine r_mv ?_; refine r_mv ?_; refine r_mv ?_
    first | refine r_iaM _ ?_ | refine r_iaMT ?_
    refine r_ldR (v := .int .u8 (at8 s i)) (hv := fun _ => ld8 s i) ?_
    refine r_cvi (at8 s i) (hb := fun _ => by have := at8_lt s i; rw [IntKind.wrap_u64]; omega) ?_
    refine r_bxor (xor64 (sumF (s.take i)) (at8 s i)) (hb := fun _ => rfl) ?_
    refine r_call (hc := h464 _ 13 (by omega)) ?_
    refine r_mulK (sumF (s.take (i + 1))) (hb := fun _ => by rw [sumF_succ s i (by omega)]; rfl) ?_
    refine r_mv ?_; refine reg_fin (env' := [_, _, _, _, ⟨_, (.int _ _)⟩]) ?_; refine BQ.normal ?_; refine wp_reg ?_; refine r_mv ?_; refine r_add64 ?_; refine r_mv ?_; refine reg_fin (env' := [_, _, ⟨_, (.int _ _)⟩, _, _]) ?_; refine LQ.normal ?_
    exact ⟨i + 1, (by omega), by omega, (Ghost.to [] q7 q7 q4 q1)⟩
  · try simp only [b0, b1, b2, b3, b4, b5, b6, b7, b8, b9, b10, b11] at hc0
    refine wp_exitseq ?_; refine LQ.out ?_; refine wp_regseq ?_
    have ht : s.take i = s := List.take_of_length_le (by omega)
    rw [ht]
    refine r_mv ?_; refine r_mv ?_
    refine r_shr (shr64 (sumF s) 29) (hb := fun _ => rfl) ?_
    refine r_bxor (sumL s) (hb := fun _ => rfl) ?_
    refine r_mv ?_; refine reg_end (env' := [_, ⟨_, (.int _ _)⟩, _, _, _]) ?_; refine wp_ret ?_
    refine res_of trivial q2 q3 (Eq.trans q7 (congrArg (D.int .u64) ?_))
    rfl
def C221 (Γ : Ctx) : Prop := ∀ (s : Str), Γ.pre 221 [.sl 1 ((s).map fun b => D.int .u8 b.toNat)] ∧ Γ.val 221 [.sl 1 ((s).map fun b => D.int .u8 b.toNat)] = .int .u64 (sumL s)
end Go.Abs
end
section
namespace Go.Abs
open Go
/-- linchpin/linchpinref9.Text -/
def ref9_Text : AFunc := { np := 1, ns := 5, res := [⟨1, none⟩], rsh := [[.a]], body := (.seq (.reg false [⟨.mv (.c (.str [])), none⟩] [(1, 0)]) (.seq (.reg false [⟨.mv (.c (.nils)), none⟩] [(4, 0)]) (.seq (.seq (.reg false [⟨.mv (.c (.int .i64 15)), none⟩] [(2, 0)]) (.block 0 (.loop (.seq (.seq (.reg false [⟨.mv (.s 2), none⟩, ⟨.bin .geq (.l 0) (.c (.int .i64 0)), none⟩] [(3, 1)]) (.cond (.s 3) .skip (.exit 0))) (.seq (.block 1 (.reg false [⟨.mv (.s 4), none⟩, ⟨.mv (.s 0), none⟩, ⟨.mv (.s 2), none⟩, ⟨.bin .mul (.c (.int .i64 4)) (.l 2), none⟩, ⟨.cvi .u64 (.l 3), none⟩, ⟨.bin .shr (.l 1) (.l 4), none⟩, ⟨.bin .and (.l 5) (.c (.int .u64 15)), none⟩, ⟨.ixS (.c (.str [48, 49, 50, 51, 52, 53, 54, 55, 56, 57, 97, 98, 99, 100, 101, 102])) (.l 6), none⟩, ⟨.bsl 1 (.int .u8 0) 1 [(0, (.l 7))], none⟩, ⟨.app 1 (.l 0) (.l 8), none⟩, ⟨.mv (.l 9), none⟩] [(4, 10)])) (.reg false [⟨.mv (.s 2), none⟩, ⟨.bin .sub (.l 0) (.c (.int .i64 1)), none⟩, ⟨.mv (.l 1), none⟩] [(2, 2)])))))) (.seq (.reg false [⟨.mv (.s 4), none⟩, ⟨.b2s (.l 0), none⟩, ⟨.mv (.l 1), none⟩] [(1, 2)]) .ret)))) }
theorem w313 {Γ : Ctx} (hm : (Γ.at 0).Mono)  (n : Int)  : wpA (Γ.at 0) ref9_Text.body (Res ref9_Text (.str (textL n)) : Ex → List Ent → St → Prop) (env0 ref9_Text [.int .u64 n]) ⟨0, []⟩ := by
  show wpA _ _ _ [⟨true, .int .u64 n⟩, .un, .un, .un, .un] ⟨0, []⟩
  refine wp_regseq ?_; refine r_mv ?_; refine reg_end (env' := [_, ⟨_, (.str _)⟩, _, _, _]) ?_; refine wp_regseq ?_; refine r_mv ?_; refine reg_end (env' := [_, _, _, _, ⟨_, .nils⟩]) ?_; refine wp_assoc ?_; refine wp_regseq ?_; refine r_mv ?_; refine reg_end (env' := [_, _, ⟨_, (.int _ _)⟩, _, _]) ?_
  refine wp_for hm (ι := Nat) (fun k => [⟨true, .int .u64 n⟩, .un, ⟨true, .int .i64 ((15 : Int) - (k : Nat))⟩, .un, ⟨true, .own 0 1 0 ((textL n).take k).length⟩]) (fun k => [(0, .buf 1 (((textL n).take k).map fun b => D.int .u8 b.toNat))]) 3 (fun k => k ≤ 16) (fun k => 16 - k) 0 (by omega) (Ghost.to [] q7 q7 (by repeat (first | exact RnE.nil | refine RnE.un ?_ | refine RnE.eq q7 ?_ | refine RnE.ni (Or.inr ⟨0, 1, 0, rfl⟩) ?_)) (by repeat (first | exact RnM.nil | refine RnM.mt q7 q7 q7 q7 ?_))) ?_
  intro k hk
  have htk := textL_take n k hk
  refine wp_assoc ?_; refine wp_regseq ?_; refine r_mv ?_; refine r_geqI ?_; refine reg_end (env' := [_, _, _, ⟨_, (.bool _)⟩, _]) ?_
  refine wp_condseq (fun hc0 => ?_) (fun hc0 => ?_)
  · try simp only [b0, b1, b2, b3, b4, b5, b6, b7, b8, b9, b10, b11] at hc0
    refine wp_skipseq ?_
    refine wp_blockseq ?_ hm
    refine wp_reg ?_; refine r_mv ?_; refine r_mv ?_; refine r_mv ?_; refine r_mul64 ?_
    refine r_cvi ((4 * (15 - k) : Nat) : Int) (hb := fun _ => by rw [IntKind.wrap_u64]; omega) ?_
    refine r_shr (shr64 n (4 * (15 - k))) (hb := fun _ => by rw [show min (Int.toNat ((4 * (15 - k) : Nat) : Int)) (IntKind.bits .u64) = 4 * (15 - k) by simp [IntKind.bits]; omega]; rfl) ?_
    refine r_band ((nib n (15 - k) : Nat) : Int) (hb := fun _ => nib_wrap n (15 - k)) ?_; have hnib := nib_lt n (15 - k)
    first | refine r_ixS _ ?_ | refine r_ixST ?_
    refine r_bsl [.int .u8 _] ?_; refine r_app1 (hb := by omega) ?_; refine r_mv ?_; refine reg_fin (env' := [_, _, _, _, ⟨_, (.own _ _ _ _)⟩]) ?_
    rw [← textL_succ n k (by omega)]
    refine BQ.normal ?_; refine wp_reg ?_; refine r_mv ?_; refine r_sub64 ?_; refine r_mv ?_; refine reg_fin (env' := [_, _, ⟨_, (.int _ _)⟩, _, _]) ?_; refine LQ.normal ?_
    exact ⟨k + 1, (by omega), by omega, (Ghost.to [(14, 0)] q7 q7 (by repeat (first | exact RnE.nil | refine RnE.un ?_ | refine RnE.eq q7 ?_ | refine RnE.nl (congrArg (D.int .i64) (by omega)) q7 ?_)) (by refine RnM.nl 14 q7 q7 q7 q5 ?_; exact RnM.nil))⟩
  · try simp only [b0, b1, b2, b3, b4, b5, b6, b7, b8, b9, b10, b11] at hc0
    refine wp_exitseq ?_; refine LQ.out ?_; refine wp_regseq ?_; refine r_mv ?_
    refine r_b2s (textL n) (he := fun _ => Els.all q7 (by simp)) (hs := fun _ => by rw [List.take_of_length_le (by rw [textL_len]; omega)]) ?_
    refine r_mv ?_; refine reg_end (env' := [_, ⟨_, (.str _)⟩, _, _, _]) ?_; refine wp_ret ?_
    refine res_of trivial q2 q3 (Eq.trans q7 (congrArg D.str ?_))
    rfl
def C313 (Γ : Ctx) : Prop := ∀ (n : Int), Γ.pre 313 [.int .u64 n] ∧ Γ.val 313 [.int .u64 n] = .str (textL n)
end Go.Abs
end
section
namespace Go.Abs
open Go
/-- linchpin/linchpinref33.SameLine -/
def ref33_SameLine : AFunc := { np := 2, ns := 9, res := [⟨2, none⟩], rsh := [[.a]], body := (.seq (.reg false [⟨.box 9 (.s 0), none⟩, ⟨.box 9 (.s 1), none⟩, ⟨.mv (.c (.bool false)), none⟩] [(3, 0), (4, 1), (2, 2)]) (.seq (.seq (.reg false [⟨.fa 0 (.s 3), none⟩, ⟨.ld 1 false (.l 0), none⟩, ⟨.fa 0 (.s 4), none⟩, ⟨.ld 1 false (.l 2), none⟩, ⟨.bin .neq (.l 1) (.l 3), none⟩, ⟨.mv (.l 4), none⟩, ⟨.fa 1 (.s 3), some (5, false)⟩, ⟨.ld 5 true (.l 6), some (5, false)⟩, ⟨.fa 1 (.s 4), some (5, false)⟩, ⟨.ld 5 true (.l 8), some (5, false)⟩, ⟨.eqA true true [.i .i64, .i .i64, .i .i64, .s, .s] (.l 7) (.l 9), some (5, false)⟩, ⟨.pick (.l 5) (.c (.bool true)) (.l 10), none⟩, ⟨.mv (.l 11), none⟩, ⟨.fa 6 (.s 3), some (12, false)⟩, ⟨.ld 1 false (.l 13), some (12, false)⟩, ⟨.fa 6 (.s 4), some (12, false)⟩, ⟨.ld 1 false (.l 15), some (12, false)⟩, ⟨.bin .neq (.l 14) (.l 16), some (12, false)⟩, ⟨.pick (.l 12) (.c (.bool true)) (.l 17), none⟩, ⟨.mv (.l 18), none⟩, ⟨.fa 7 (.s 3), some (19, false)⟩, ⟨.ld 1 false (.l 20), some (19, false)⟩, ⟨.fa 7 (.s 4), some (19, false)⟩, ⟨.ld 1 false (.l 22), some (19, false)⟩, ⟨.bin .neq (.l 21) (.l 23), some (19, false)⟩, ⟨.pick (.l 19) (.c (.bool true)) (.l 24), none⟩, ⟨.mv (.l 25), none⟩, ⟨.fa 8 (.s 3), some (26, false)⟩, ⟨.ld 1 false (.l 27), some (26, false)⟩, ⟨.len (.l 28), some (26, false)⟩, ⟨.fa 8 (.s 4), some (26, false)⟩, ⟨.ld 1 false (.l 30), some (26, false)⟩, ⟨.len (.l 31), some (26, false)⟩, ⟨.bin .neq (.l 29) (.l 32), some (26, false)⟩, ⟨.pick (.l 26) (.c (.bool true)) (.l 33), none⟩] [(5, 34)]) (.cond (.s 5) (.seq (.reg false [⟨.mv (.c (.bool false)), none⟩] [(2, 0)]) .ret) .skip)) (.seq (.seq (.reg false [⟨.mv (.c (.int .i64 0)), none⟩] [(6, 0)]) (.block 0 (.loop (.seq (.seq (.reg false [⟨.mv (.s 6), none⟩, ⟨.fa 8 (.s 3), none⟩, ⟨.ld 1 false (.l 1), none⟩, ⟨.len (.l 2), none⟩, ⟨.bin .lss (.l 0) (.l 3), none⟩] [(7, 4)]) (.cond (.s 7) .skip (.exit 0))) (.seq (.block 1 (.seq (.reg true [⟨.fa 8 (.s 3), none⟩, ⟨.ld 1 false (.l 0), none⟩, ⟨.mv (.s 6), none⟩, ⟨.ia 1 (.l 1) (.l 2), none⟩, ⟨.ld 1 false (.l 3), none⟩, ⟨.fa 8 (.s 4), none⟩, ⟨.ld 1 false (.l 5), none⟩, ⟨.mv (.s 6), none⟩, ⟨.ia 1 (.l 6) (.l 7), none⟩, ⟨.ld 1 false (.l 8), none⟩, ⟨.bin .neq (.l 4) (.l 9), none⟩] [(8, 10)]) (.cond (.s 8) (.seq (.reg false [⟨.mv (.c (.bool false)), none⟩] [(2, 0)]) .ret) .skip))) (.reg false [⟨.mv (.s 6), none⟩, ⟨.bin .add (.l 0) (.c (.int .i64 1)), none⟩, ⟨.mv (.l 1), none⟩] [(6, 2)])))))) (.seq (.reg false [⟨.mv (.c (.bool true)), none⟩] [(2, 0)]) .ret)))) }
theorem w311 {Γ : Ctx} (hm : (Γ.at 0).Mono)  (a : Lkd) (b : Lkd)  : wpA (Γ.at 0) ref33_SameLine.body (Res ref33_SameLine (.bool (decide (a = b))) : Ex → List Ent → St → Prop) (env0 ref33_SameLine [Lkd.D a, Lkd.D b]) ⟨0, []⟩ := by
  show wpA _ _ _ [⟨true, Lkd.D a⟩, ⟨true, Lkd.D b⟩, .un, .un, .un, .un, .un, .un, .un] ⟨0, []⟩
  refine wp_regseq ?_; refine r_box ?_; refine r_box ?_; refine r_mv ?_; refine reg_end (env' := [_, _, ⟨_, (.bool _)⟩, ⟨_, _⟩, ⟨_, _⟩, _, _, _, _]) ?_; refine wp_assoc ?_; refine wp_regseq ?_; refine r_faP ?_; refine r_ldF (v := (.str _)) ?_; refine r_faP ?_; refine r_ldF (v := (.str _)) ?_; refine r_neqS ?_; refine r_mv ?_; refine r_faP ?_; refine r_ldF (v := (Ver.D _)) ?_; refine r_faP ?_; refine r_ldF (v := (Ver.D _)) ?_; refine r_eqN (hb := Ver.eq _ _) ?_; refine r_or ?_; refine r_mv ?_; refine r_faP ?_; refine r_ldF (v := (.str _)) ?_; refine r_faP ?_; refine r_ldF (v := (.str _)) ?_; refine r_neqS ?_
  refine r_or ?_; refine r_mv ?_; refine r_faP ?_; refine r_ldF (v := (.int _ _)) ?_; refine r_faP ?_; refine r_ldF (v := (.int _ _)) ?_; refine r_neqI ?_; refine r_or ?_; refine r_mv ?_; refine r_faP ?_
  first | refine r_ldF (v := .sl _ _) ?_ | refine r_ldF (v := .own _ _ _ _) ?_ | refine r_ldF (v := .nils) ?_
  refine r_lenM fun _ => ?_
  refine r_faP ?_
  first | refine r_ldF (v := .sl _ _) ?_ | refine r_ldF (v := .own _ _ _ _) ?_ | refine r_ldF (v := .nils) ?_
  refine r_lenM fun _ => ?_
  refine r_neqI ?_; refine r_or ?_; refine reg_end (env' := [_, _, _, _, _, ⟨_, (.bool _)⟩, _, _, _]) ?_
  refine wp_condseq (fun hc0 => ?_) (fun hc0 => ?_)
  · simp only [Bool.or_eq_true, Bool.not_eq_true', decide_eq_false_iff_not] at hc0
    refine wp_assoc ?_; refine wp_regseq ?_; refine r_mv ?_; refine reg_end (env' := [_, _, ⟨_, (.bool _)⟩, _, _, _, _, _, _]) ?_; refine wp_retseq ?_
    refine res_of trivial q2 q3 (Eq.trans q7 (congrArg D.bool ?_))
    symm; rw [decide_eq_false_iff_not]; rintro rfl; simp at hc0
  · simp only [Bool.or_eq_false_iff, Bool.not_eq_false', decide_eq_true_eq] at hc0
    refine wp_skipseq ?_; refine wp_assoc ?_; refine wp_regseq ?_; refine r_mv ?_; refine reg_end (env' := [_, _, _, _, _, _, ⟨_, (.int _ _)⟩, _, _]) ?_
    obtain ⟨⟨⟨⟨e1, e2⟩, e3⟩, e4⟩, e5⟩ := hc0
    have e5 : a.feats.length = b.feats.length := by omega
    have hb := Lkd.same e1 e2 e3 e4 e5
    refine wp_for hm (ι := Nat) (fun i => [.un, .un, .un, ⟨true, .ptr 0 9 0 0⟩, ⟨true, .ptr 1 9 0 0⟩, .un, ⟨true, .int .i64 (i : Nat)⟩, .un, .un]) (fun i => [(0, .buf 9 [Lkd.D a]), (1, .buf 9 [Lkd.D b])]) 39 (fun i => i ≤ a.feats.length ∧ decide (a = b) = allF (fun i => decide (a.feats[i]! = b.feats[i]!)) i a.feats.length) (fun i => a.feats.length - i) 0 ⟨by omega, hb⟩ (Ghost.to [(0, 0), (1, 1)] q7 q7 q4 q1) ?_
    rintro i ⟨hi, hr⟩
    refine wp_assoc ?_; refine wp_regseq ?_; refine r_mv ?_; refine r_faP ?_
    first | refine r_ldF (v := .sl _ _) ?_ | refine r_ldF (v := .own _ _ _ _) ?_ | refine r_ldF (v := .nils) ?_
    refine r_lenM fun hlR4_3 => ?_; replace hlR4_3 := hlR4_3 rfl rfl
    refine r_lssI ?_; refine reg_end (env' := [_, _, _, _, _, _, _, ⟨_, (.bool _)⟩, _]) ?_
    refine wp_condseq (fun hc1 => ?_) (fun hc1 => ?_)
    · try simp only [b0, b1, b2, b3, b4, b5, b6, b7, b8, b9, b10, b11] at hc1
      refine wp_skipseq ?_
      refine wp_blockseq ?_ hm
      refine wp_regseq ?_; refine r_faP ?_
      first | refine r_ldF (v := .sl _ _) ?_ | refine r_ldF (v := .own _ _ _ _) ?_ | refine r_ldF (v := .nils) ?_
      refine r_mv ?_
      first | refine r_iaM _ ?_ | refine r_iaMT ?_
      first | refine r_ldR (v := (.str _)) ?_ | refine r_ldQ (v := (.str _)) ?_
      refine r_faP ?_
      first | refine r_ldF (v := .sl _ _) ?_ | refine r_ldF (v := .own _ _ _ _) ?_ | refine r_ldF (v := .nils) ?_
      refine r_mv ?_
      first | refine r_iaM _ ?_ | refine r_iaMT ?_
      first | refine r_ldR (v := (.str _)) ?_ | refine r_ldQ (v := (.str _)) ?_
      refine r_neqS ?_; refine reg_end (env' := [_, _, _, _, _, _, _, _, ⟨_, (.bool _)⟩]) ?_
      refine wp_cond (fun hc2 => ?_) (fun hc2 => ?_)
      · simp only [Bool.not_eq_true', decide_eq_false_iff_not] at hc2
        refine wp_regseq ?_; refine r_mv ?_; refine reg_end (env' := [_, _, ⟨_, (.bool _)⟩, _, _, _, _, _, _]) ?_; refine wp_ret ?_; refine BQ.ret ?_; refine LQ.ret ?_
        refine res_of trivial q2 q3 (Eq.trans q7 (congrArg D.bool ?_))
        rw [hr, allF_lt (by omega), decide_eq_false hc2]; rfl
      · simp only [Bool.not_eq_false', decide_eq_true_eq] at hc2
        refine wp_skip ?_; refine BQ.normal ?_; refine wp_reg ?_; refine r_mv ?_; refine r_add64 ?_; refine r_mv ?_; refine reg_fin (env' := [_, _, _, _, _, _, ⟨_, (.int _ _)⟩, _, _]) ?_; refine LQ.normal ?_
        exact ⟨i + 1, ⟨by omega, by rw [hr, allF_lt (by omega), decide_eq_true hc2]; rfl⟩, by omega, (Ghost.to [(0, 0), (1, 1)] q7 q7 q4 q1)⟩
    · try simp only [b0, b1, b2, b3, b4, b5, b6, b7, b8, b9, b10, b11] at hc1
      refine wp_exitseq ?_; refine LQ.out ?_; refine wp_regseq ?_; refine r_mv ?_; refine reg_end (env' := [_, _, ⟨_, (.bool _)⟩, _, _, _, _, _, _]) ?_; refine wp_ret ?_
      refine res_of trivial q2 q3 (Eq.trans q7 (congrArg D.bool ?_))
      rw [hr, allF_ge (by omega)]
def C311 (Γ : Ctx) : Prop := ∀ (a : Lkd) (b : Lkd), Γ.pre 311 [Lkd.D a, Lkd.D b] ∧ Γ.val 311 [Lkd.D a, Lkd.D b] = .bool (decide (a = b))
/-- linchpin/linchpinref33.SameLines -/
def ref33_SameLines : AFunc := { np := 2, ns := 7, res := [⟨2, none⟩], rsh := [[.a]], body := (.seq (.reg false [⟨.mv (.c (.bool false)), none⟩] [(2, 0)]) (.seq (.seq (.reg false [⟨.mv (.s 0), none⟩, ⟨.len (.l 0), none⟩, ⟨.mv (.s 1), none⟩, ⟨.len (.l 2), none⟩, ⟨.bin .neq (.l 1) (.l 3), none⟩] [(3, 4)]) (.cond (.s 3) (.seq (.reg false [⟨.mv (.c (.bool false)), none⟩] [(2, 0)]) .ret) .skip)) (.seq (.seq (.reg false [⟨.mv (.c (.int .i64 0)), none⟩] [(4, 0)]) (.block 0 (.loop (.seq (.seq (.reg false [⟨.mv (.s 4), none⟩, ⟨.mv (.s 0), none⟩, ⟨.len (.l 1), none⟩, ⟨.bin .lss (.l 0) (.l 2), none⟩] [(5, 3)]) (.cond (.s 5) .skip (.exit 0))) (.seq (.block 1 (.seq (.reg true [⟨.mv (.s 0), none⟩, ⟨.mv (.s 4), none⟩, ⟨.ia 9 (.l 0) (.l 1), none⟩, ⟨.ld 9 true (.l 2), none⟩, ⟨.mv (.s 1), none⟩, ⟨.mv (.s 4), none⟩, ⟨.ia 9 (.l 4) (.l 5), none⟩, ⟨.ld 9 true (.l 6), none⟩, ⟨.call 311 [(.l 3), (.l 7)] [[.a, .a, .a, .a, .a, .a, .a, .a, .sl 1 [.a]], [.a, .a, .a, .a, .a, .a, .a, .a, .sl 1 [.a]]], none⟩, ⟨.un .not (.l 8), none⟩] [(6, 9)]) (.cond (.s 6) (.seq (.reg false [⟨.mv (.c (.bool false)), none⟩] [(2, 0)]) .ret) .skip))) (.reg false [⟨.mv (.s 4), none⟩, ⟨.bin .add (.l 0) (.c (.int .i64 1)), none⟩, ⟨.mv (.l 1), none⟩] [(4, 2)])))))) (.seq (.reg false [⟨.mv (.c (.bool true)), none⟩] [(2, 0)]) .ret)))) }
theorem w310 {Γ : Ctx} (hm : (Γ.at 0).Mono) (h311 : C311 (Γ.at 0)) (a : List Lkd) (b : List Lkd)  : wpA (Γ.at 0) ref33_SameLines.body (Res ref33_SameLines (.bool (decide (a = b))) : Ex → List Ent → St → Prop) (env0 ref33_SameLines [.sl 9 (a.map Lkd.D), .sl 9 (b.map Lkd.D)]) ⟨0, []⟩ := by
  show wpA _ _ _ [⟨true, .sl 9 (a.map Lkd.D)⟩, ⟨true, .sl 9 (b.map Lkd.D)⟩, .un, .un, .un, .un, .un] ⟨0, []⟩
  refine wp_regseq ?_; refine r_mv ?_; refine reg_end (env' := [_, _, ⟨_, (.bool _)⟩, _, _, _, _]) ?_; refine wp_assoc ?_; refine wp_regseq ?_; refine r_mv ?_
  refine r_lenM fun hlR1_1 => ?_; replace hlR1_1 := hlR1_1 rfl rfl
  refine r_mv ?_
  refine r_lenM fun hlR1_3 => ?_; replace hlR1_3 := hlR1_3 rfl rfl
  refine r_neqI ?_; refine reg_end (env' := [_, _, _, ⟨_, (.bool _)⟩, _, _, _]) ?_
  refine wp_condseq (fun hc0 => ?_) (fun hc0 => ?_)
  · try simp only [b0, b1, b2, b3, b4, b5, b6, b7, b8, b9, b10, b11] at hc0
    refine wp_assoc ?_; refine wp_regseq ?_; refine r_mv ?_; refine reg_end (env' := [_, _, ⟨_, (.bool _)⟩, _, _, _, _]) ?_; refine wp_retseq ?_
    refine res_of trivial q2 q3 (Eq.trans q7 (congrArg D.bool ?_))
    symm; rw [decide_eq_false_iff_not]; rintro rfl; simp at hc0
  · try simp only [b0, b1, b2, b3, b4, b5, b6, b7, b8, b9, b10, b11] at hc0
    refine wp_skipseq ?_; refine wp_assoc ?_; refine wp_regseq ?_; refine r_mv ?_; refine reg_end (env' := [_, _, _, _, ⟨_, (.int _ _)⟩, _, _]) ?_
    have hb := same_idx (show a.length = b.length by omega)
    refine wp_for hm (ι := Nat) (fun i => [⟨true, .sl 9 (a.map Lkd.D)⟩, ⟨true, .sl 9 (b.map Lkd.D)⟩, .un, .un, ⟨true, .int .i64 (i : Nat)⟩, .un, .un]) (fun i => []) 7 (fun i => i ≤ a.length ∧ decide (a = b) = allF (fun i => decide (a[i]! = b[i]!)) i a.length) (fun i => a.length - i) 0 ⟨by omega, hb⟩ (Ghost.to [] q7 q7 q4 q1) ?_
    rintro i ⟨hi, hr⟩
    refine wp_assoc ?_; refine wp_regseq ?_; refine r_mv ?_; refine r_mv ?_
    refine r_lenM fun hlR4_2 => ?_; replace hlR4_2 := hlR4_2 rfl rfl
    refine r_lssI ?_; refine reg_end (env' := [_, _, _, _, _, ⟨_, (.bool _)⟩, _]) ?_
    refine wp_condseq (fun hc1 => ?_) (fun hc1 => ?_)
    · try simp only [b0, b1, b2, b3, b4, b5, b6, b7, b8, b9, b10, b11] at hc1
      refine wp_skipseq ?_
      refine wp_blockseq ?_ hm
      refine wp_regseq ?_; refine r_mv ?_; refine r_mv ?_
      first | refine r_iaM _ ?_ | refine r_iaMT ?_
      first | refine r_ldR (v := (Lkd.D _)) ?_ | refine r_ldQ (v := (Lkd.D _)) ?_
      refine r_mv ?_; refine r_mv ?_
      first | refine r_iaM _ ?_ | refine r_iaMT ?_
      first | refine r_ldR (v := (Lkd.D _)) ?_ | refine r_ldQ (v := (Lkd.D _)) ?_
      refine r_call (hc := h311 _ _) ?_; refine r_not ?_; refine reg_end (env' := [_, _, _, _, _, _, ⟨_, (.bool _)⟩]) ?_
      refine wp_cond (fun hc2 => ?_) (fun hc2 => ?_)
      · simp only [Bool.not_eq_true', decide_eq_false_iff_not] at hc2
        refine wp_regseq ?_; refine r_mv ?_; refine reg_end (env' := [_, _, ⟨_, (.bool _)⟩, _, _, _, _]) ?_; refine wp_ret ?_; refine BQ.ret ?_; refine LQ.ret ?_
        refine res_of trivial q2 q3 (Eq.trans q7 (congrArg D.bool ?_))
        rw [hr, allF_lt (by omega), decide_eq_false hc2]; rfl
      · simp only [Bool.not_eq_false', decide_eq_true_eq] at hc2
        refine wp_skip ?_; refine BQ.normal ?_; refine wp_reg ?_; refine r_mv ?_; refine r_add64 ?_; refine r_mv ?_; refine reg_fin (env' := [_, _, _, _, ⟨_, (.int _ _)⟩, _, _]) ?_; refine LQ.normal ?_
        exact ⟨i + 1, ⟨by omega, by rw [hr, allF_lt (by omega), decide_eq_true hc2]; rfl⟩, by omega, (Ghost.to [] q7 q7 q4 q1)⟩
    · try simp only [b0, b1, b2, b3, b4, b5, b6, b7, b8, b9, b10, b11] at hc1
      refine wp_exitseq ?_; refine LQ.out ?_; refine wp_regseq ?_; refine r_mv ?_; refine reg_end (env' := [_, _, ⟨_, (.bool _)⟩, _, _, _, _]) ?_; refine wp_ret ?_
      refine res_of trivial q2 q3 (Eq.trans q7 (congrArg D.bool ?_))
      rw [hr, allF_ge (by omega)]
def C310 (Γ : Ctx) : Prop := ∀ (a : List Lkd) (b : List Lkd), Γ.pre 310 [.sl 9 (a.map Lkd.D), .sl 9 (b.map Lkd.D)] ∧ Γ.val 310 [.sl 9 (a.map Lkd.D), .sl 9 (b.map Lkd.D)] = .bool (decide (a = b))
/-- linchpin/linchpinref33.Same -/
def ref33_Same : AFunc := { np := 2, ns := 5, res := [⟨2, none⟩], rsh := [[.a]], body := (.seq (.reg false [⟨.box 4 (.s 0), none⟩, ⟨.box 4 (.s 1), none⟩, ⟨.mv (.c (.bool false)), none⟩] [(3, 0), (4, 1), (2, 2)]) (.seq (.reg false [⟨.fa 0 (.s 3), none⟩, ⟨.ld 3 true (.l 0), none⟩, ⟨.fa 0 (.s 4), none⟩, ⟨.ld 3 true (.l 2), none⟩, ⟨.eqA false true [.s, .s, .s] (.l 1) (.l 3), none⟩, ⟨.mv (.l 4), none⟩, ⟨.fa 3 (.s 3), some (5, true)⟩, ⟨.ld 1 false (.l 6), some (5, true)⟩, ⟨.fa 3 (.s 4), some (5, true)⟩, ⟨.ld 1 false (.l 8), some (5, true)⟩, ⟨.call 310 [(.l 7), (.l 9)] [[.sl 9 [.a, .a, .a, .a, .a, .a, .a, .a, .sl 1 [.a]]], [.sl 9 [.a, .a, .a, .a, .a, .a, .a, .a, .sl 1 [.a]]]], some (5, true)⟩, ⟨.pick (.l 5) (.l 10) (.c (.bool false)), none⟩, ⟨.mv (.l 11), none⟩] [(2, 12)]) .ret)) }
theorem w117 {Γ : Ctx} (hm : (Γ.at 0).Mono) (h310 : C310 (Γ.at 0)) (a : Lck) (b : Lck)  : wpA (Γ.at 0) ref33_Same.body (Res ref33_Same (.bool (decide (a = b))) : Ex → List Ent → St → Prop) (env0 ref33_Same [Lck.D a, Lck.D b]) ⟨0, []⟩ := by
  show wpA _ _ _ [⟨true, Lck.D a⟩, ⟨true, Lck.D b⟩, .un, .un, .un] ⟨0, []⟩
  refine wp_regseq ?_; refine r_box ?_; refine r_box ?_; refine r_mv ?_; refine reg_end (env' := [_, _, ⟨_, (.bool _)⟩, ⟨_, _⟩, ⟨_, _⟩]) ?_; refine wp_regseq ?_; refine r_faP ?_; refine r_ldF (v := (Env.D _)) ?_; refine r_faP ?_; refine r_ldF (v := (Env.D _)) ?_; refine r_eqP (hb := Env.eq _ _) ?_; refine r_mv ?_; refine r_faP ?_
  first | refine r_ldF (v := .sl _ _) ?_ | refine r_ldF (v := .own _ _ _ _) ?_ | refine r_ldF (v := .nils) ?_
  refine r_faP ?_
  first | refine r_ldF (v := .sl _ _) ?_ | refine r_ldF (v := .own _ _ _ _) ?_ | refine r_ldF (v := .nils) ?_
  refine r_call (hc := h310 _ _) ?_; refine r_and ?_; refine r_mv ?_; refine reg_end (env' := [_, _, ⟨_, (.bool _)⟩, _, _]) ?_; refine wp_ret ?_
  refine res_of trivial q2 q3 (Eq.trans q7 (congrArg D.bool ?_))
  obtain ⟨a1, a2⟩ := a
  obtain ⟨b1, b2⟩ := b
  simp only [Lck.mk.injEq, Bool.decide_and]
def C117 (Γ : Ctx) : Prop := ∀ (a : Lck) (b : Lck), Γ.pre 117 [Lck.D a, Lck.D b] ∧ Γ.val 117 [Lck.D a, Lck.D b] = .bool (decide (a = b))
end Go.Abs
end
section
namespace Go.Abs
open Go
/-- linchpin/ident.Word -/
def ident_Word : AFunc := { np := 1, ns := 8, res := [⟨1, none⟩], rsh := [[.a]], body := (.seq (.reg false [⟨.mv (.c (.bool false)), none⟩] [(1, 0)]) (.seq (.seq (.reg false [⟨.mv (.s 0), none⟩, ⟨.bin .eql (.l 0) (.c (.str [])), none⟩, ⟨.mv (.l 1), none⟩, ⟨.mv (.s 0), some (2, false)⟩, ⟨.lenS (.l 3), some (2, false)⟩, ⟨.bin .gtr (.l 4) (.c (.int .i64 12)), some (2, false)⟩, ⟨.pick (.l 2) (.c (.bool true)) (.l 5), none⟩] [(2, 6)]) (.cond (.s 2) (.seq (.reg false [⟨.mv (.c (.bool false)), none⟩] [(1, 0)]) .ret) .skip)) (.seq (.seq (.reg false [⟨.mv (.s 0), none⟩, ⟨.rng (.l 0), none⟩] [(3, 1)]) (.block 0 (.loop (.seq (.reg false [⟨.nxt (.s 3), none⟩, ⟨.ext (.l 0) 0, none⟩] [(5, 0), (4, 1)]) (.seq (.cond (.s 4) .skip (.exit 0)) (.block 1 (.seq (.reg false [⟨.ext (.s 5) 2, none⟩, ⟨.mv (.l 0), none⟩] [(6, 1)]) (.block 2 (.seq (.seq (.reg false [⟨.mv (.s 6), none⟩, ⟨.bin .geq (.l 0) (.c (.int .i32 97)), none⟩, ⟨.mv (.l 1), none⟩, ⟨.mv (.s 6), some (2, true)⟩, ⟨.bin .leq (.l 3) (.c (.int .i32 122)), some (2, true)⟩, ⟨.pick (.l 2) (.l 4) (.c (.bool false)), none⟩, ⟨.mv (.l 5), none⟩] [(7, 6)]) (.cond (.s 7) .skip (.seq (.reg false [⟨.mv (.s 6), none⟩, ⟨.bin .geq (.l 0) (.c (.int .i32 48)), none⟩, ⟨.mv (.l 1), none⟩, ⟨.mv (.s 6), some (2, true)⟩, ⟨.bin .leq (.l 3) (.c (.int .i32 57)), some (2, true)⟩, ⟨.pick (.l 2) (.l 4) (.c (.bool false)), none⟩, ⟨.mv (.l 5), none⟩] [(7, 6)]) (.cond (.s 7) .skip (.reg false [⟨.mv (.s 6), none⟩, ⟨.bin .eql (.l 0) (.c (.int .i32 95)), none⟩, ⟨.mv (.l 1), none⟩] [(7, 2)]))))) (.cond (.s 7) .skip (.seq (.reg false [⟨.mv (.c (.bool false)), none⟩] [(1, 0)]) .ret))))))))))) (.seq (.reg false [⟨.mv (.c (.bool true)), none⟩] [(1, 0)]) .ret)))) }
theorem w349 {Γ : Ctx} (hm : (Γ.at 0).Mono)  (s : Str)  : wpA (Γ.at 0) ident_Word.body (Res ident_Word (.bool (wordB s)) : Ex → List Ent → St → Prop) (env0 ident_Word [.str s]) ⟨0, []⟩ := by
  show wpA _ _ _ [⟨true, .str s⟩, .un, .un, .un, .un, .un, .un, .un] ⟨0, []⟩
  refine wp_regseq ?_; refine r_mv ?_; refine reg_end (env' := [_, ⟨_, (.bool _)⟩, _, _, _, _, _, _]) ?_; refine wp_assoc ?_; refine wp_regseq ?_; refine r_mv ?_; refine r_eqlS ?_; refine r_mv ?_; refine r_mv ?_
  refine r_lenS fun _ => ?_
  refine r_gtrI ?_; refine r_or ?_; refine reg_end (env' := [_, _, ⟨_, (.bool _)⟩, _, _, _, _, _]) ?_
  refine wp_condseq (fun hc0 => ?_) (fun hc0 => ?_)
  · try simp only [b0, b1, b2, b3, b4, b5, b6, b7, b8, b9, b10, b11] at hc0
    refine wp_assoc ?_; refine wp_regseq ?_; refine r_mv ?_; refine reg_end (env' := [_, ⟨_, (.bool _)⟩, _, _, _, _, _, _]) ?_; refine wp_retseq ?_
    refine res_of trivial q2 q3 (Eq.trans q7 (congrArg D.bool ?_))
    symm; simp only [wordB, Bool.and_eq_false_iff, decide_eq_false_iff_not]; rcases hc0 with h | h
    · subst h; exact Or.inl (Or.inl (by simp))
    · exact Or.inl (by omega)
  · try simp only [b0, b1, b2, b3, b4, b5, b6, b7, b8, b9, b10, b11] at hc0
    refine wp_skipseq ?_; refine wp_assoc ?_; refine wp_regseq ?_; refine r_mv ?_; refine r_rng ?_; refine reg_end (env' := [_, _, _, ⟨_, _⟩, _, _, _, _]) ?_
    have hP : wordB s = allF (fun i => wch (at8 s i)) 0 s.length := by
      have := List.length_pos_iff.2 hc0.1
      simp only [wordB]; rw [decide_eq_true (by omega), decide_eq_true (by omega)]; rfl
    refine wp_for hm (ι := Nat) (fun i => [⟨true, .str s⟩, .un, .un, ⟨true, .it 9⟩, .un, .un, .un, .un]) (fun i => [(9, .iter s i)]) 10 (fun i => i ≤ s.length ∧ wordB s = allF (fun i => wch (at8 s i)) i s.length) (fun i => s.length - i) 0 ⟨by omega, hP⟩ (Ghost.to [(9, 9)] q7 q7 q4 q1) ?_
    rintro i ⟨hi, hr⟩
    refine wp_regseq ?_
    by_cases hnx : i < s.length
    · obtain ⟨c, w, hdec, hw, hcw⟩ := dec_spec s i hnx
      refine r_nxt1 c w (hp := hnx) (hc := hdec) ?_; refine r_ext (.bool _) ?_; refine reg_end (env' := [_, _, _, _, ⟨_, (.bool _)⟩, ⟨_, _⟩, _, _]) ?_
      refine wp_condseq (t := true) (fun _ => ?_) (fun h => by cases h)
      refine wp_skipseq ?_
      refine wp_blockL ?_ hm
      refine wp_regseq ?_; refine r_ext (.int _ _) ?_; refine r_mv ?_; refine reg_end (env' := [_, _, _, _, _, _, ⟨_, (.int _ _)⟩, _]) ?_
      refine wp_blockL ?_ hm
      refine wp_assoc ?_; refine wp_regseq ?_; refine r_mv ?_; refine r_geqI ?_; refine r_mv ?_; refine r_mv ?_; refine r_leqI ?_; refine r_and ?_; refine r_mv ?_; refine reg_end (env' := [_, _, _, _, _, _, _, ⟨_, (.bool _)⟩]) ?_
      refine wp_condseq (fun hc2 => ?_) (fun hc2 => ?_)
      · try simp only [b0, b1, b2, b3, b4, b5, b6, b7, b8, b9, b10, b11] at hc2
        refine wp_skipseq ?_
        refine wp_cond (fun hc4 => ?_) (fun hc4 => ?_)
        · try simp only [b0, b1, b2, b3, b4, b5, b6, b7, b8, b9, b10, b11] at hc4
          refine wp_skip ?_
          refine BQ0.normal ?_
          refine BQ0.normal ?_
          refine LQ.normal ?_
          obtain ⟨rfl, hat, -⟩ : w = 1 ∧ (c : Int) = at8 s i ∧ c < 128 := by
            rcases hcw with h | h
            · exact h
            · omega
          have hz : wch (at8 s i) = true := by
            simp only [wch, lowB, digitB, Bool.or_eq_true, Bool.and_eq_true, decide_eq_true_eq]; omega
          exact ⟨i + 1, ⟨by omega, by rw [hr, allF_lt hnx, hz]; rfl⟩, by omega, (Ghost.to [(9, 9)] q7 q7 q4 q1)⟩
        · try simp only [b0, b1, b2, b3, b4, b5, b6, b7, b8, b9, b10, b11] at hc4
          refine wp_regseq ?_; refine r_mv ?_; refine reg_end (env' := [_, ⟨_, (.bool _)⟩, _, _, _, _, _, _]) ?_; refine wp_ret ?_
          refine BQ0.ret ?_
          refine BQ0.ret ?_
          refine LQ.ret ?_
          refine res_of trivial q2 q3 (Eq.trans q7 (congrArg D.bool ?_))
          first
            | (exfalso; omega)
            | (rw [hr, allF_ge (by omega)]; done)
            | (
              have hz : wch (at8 s i) = false := by
                rcases hcw with ⟨_, h, _⟩ | ⟨_, h⟩ <;> (simp only [wch, lowB, digitB, Bool.or_eq_false_iff, Bool.and_eq_false_iff, decide_eq_false_iff_not]; omega)
              rw [hr, allF_lt hnx, hz]; rfl)
      · try simp only [b0, b1, b2, b3, b4, b5, b6, b7, b8, b9, b10, b11] at hc2
        refine wp_assoc ?_; refine wp_regseq ?_; refine r_mv ?_; refine r_geqI ?_; refine r_mv ?_; refine r_mv ?_; refine r_leqI ?_; refine r_and ?_; refine r_mv ?_; refine reg_end (env' := [_, _, _, _, _, _, _, ⟨_, (.bool _)⟩]) ?_
        refine wp_condseq (fun hc3 => ?_) (fun hc3 => ?_)
        · try simp only [b0, b1, b2, b3, b4, b5, b6, b7, b8, b9, b10, b11] at hc3
          refine wp_skipseq ?_
          refine wp_cond (fun hc4 => ?_) (fun hc4 => ?_)
          · try simp only [b0, b1, b2, b3, b4, b5, b6, b7, b8, b9, b10, b11] at hc4
            refine wp_skip ?_
            refine BQ0.normal ?_
            refine BQ0.normal ?_
            refine LQ.normal ?_
            obtain ⟨rfl, hat, -⟩ : w = 1 ∧ (c : Int) = at8 s i ∧ c < 128 := by
              rcases hcw with h | h
              · exact h
              · omega
            have hz : wch (at8 s i) = true := by
              simp only [wch, lowB, digitB, Bool.or_eq_true, Bool.and_eq_true, decide_eq_true_eq]; omega
            exact ⟨i + 1, ⟨by omega, by rw [hr, allF_lt hnx, hz]; rfl⟩, by omega, (Ghost.to [(9, 9)] q7 q7 q4 q1)⟩
          · try simp only [b0, b1, b2, b3, b4, b5, b6, b7, b8, b9, b10, b11] at hc4
            refine wp_regseq ?_; refine r_mv ?_; refine reg_end (env' := [_, ⟨_, (.bool _)⟩, _, _, _, _, _, _]) ?_; refine wp_ret ?_
            refine BQ0.ret ?_
            refine BQ0.ret ?_
            refine LQ.ret ?_
            refine res_of trivial q2 q3 (Eq.trans q7 (congrArg D.bool ?_))
            first
              | (exfalso; omega)
              | (rw [hr, allF_ge (by omega)]; done)
              | (
                have hz : wch (at8 s i) = false := by
                  rcases hcw with ⟨_, h, _⟩ | ⟨_, h⟩ <;> (simp only [wch, lowB, digitB, Bool.or_eq_false_iff, Bool.and_eq_false_iff, decide_eq_false_iff_not]; omega)
                rw [hr, allF_lt hnx, hz]; rfl)
        · try simp only [b0, b1, b2, b3, b4, b5, b6, b7, b8, b9, b10, b11] at hc3
          refine wp_regseq ?_; refine r_mv ?_; refine r_eqlI ?_; refine r_mv ?_; refine reg_end (env' := [_, _, _, _, _, _, _, ⟨_, (.bool _)⟩]) ?_
          refine wp_cond (fun hc4 => ?_) (fun hc4 => ?_)
          · try simp only [b0, b1, b2, b3, b4, b5, b6, b7, b8, b9, b10, b11] at hc4
            refine wp_skip ?_
            refine BQ0.normal ?_
            refine BQ0.normal ?_
            refine LQ.normal ?_
            obtain ⟨rfl, hat, -⟩ : w = 1 ∧ (c : Int) = at8 s i ∧ c < 128 := by
              rcases hcw with h | h
              · exact h
              · omega
            have hz : wch (at8 s i) = true := by
              simp only [wch, lowB, digitB, Bool.or_eq_true, Bool.and_eq_true, decide_eq_true_eq]; omega
            exact ⟨i + 1, ⟨by omega, by rw [hr, allF_lt hnx, hz]; rfl⟩, by omega, (Ghost.to [(9, 9)] q7 q7 q4 q1)⟩
          · try simp only [b0, b1, b2, b3, b4, b5, b6, b7, b8, b9, b10, b11] at hc4
            refine wp_regseq ?_; refine r_mv ?_; refine reg_end (env' := [_, ⟨_, (.bool _)⟩, _, _, _, _, _, _]) ?_; refine wp_ret ?_
            refine BQ0.ret ?_
            refine BQ0.ret ?_
            refine LQ.ret ?_
            refine res_of trivial q2 q3 (Eq.trans q7 (congrArg D.bool ?_))
            first
              | (exfalso; omega)
              | (rw [hr, allF_ge (by omega)]; done)
              | (
                have hz : wch (at8 s i) = false := by
                  rcases hcw with ⟨_, h, _⟩ | ⟨_, h⟩ <;> (simp only [wch, lowB, digitB, Bool.or_eq_false_iff, Bool.and_eq_false_iff, decide_eq_false_iff_not]; omega)
                rw [hr, allF_lt hnx, hz]; rfl)
    · refine r_nxt0 (hp := hnx) ?_; refine r_ext (.bool _) ?_; refine reg_end (env' := [_, _, _, _, ⟨_, (.bool _)⟩, ⟨_, _⟩, _, _]) ?_
      refine wp_condseq (t := false) (fun h => by cases h) (fun _ => ?_)
      refine wp_exitseq ?_; refine LQ.out ?_; refine wp_regseq ?_; refine r_mv ?_; refine reg_end (env' := [_, ⟨_, (.bool _)⟩, _, _, _, _, _, _]) ?_; refine wp_ret ?_
      refine res_of trivial q2 q3 (Eq.trans q7 (congrArg D.bool ?_))
      first
        | (exfalso; omega)
        | (rw [hr, allF_ge (by omega)]; done)
        | (
          have hz : wch (at8 s i) = false := by
            rcases hcw with ⟨_, h, _⟩ | ⟨_, h⟩ <;> (simp only [wch, lowB, digitB, Bool.or_eq_false_iff, Bool.and_eq_false_iff, decide_eq_false_iff_not]; omega)
          rw [hr, allF_lt hnx, hz]; rfl)
def C349 (Γ : Ctx) : Prop := ∀ (s : Str), Γ.pre 349 [.str s] ∧ Γ.val 349 [.str s] = .bool (wordB s)
/-- linchpin/ident.Name -/
def ident_Name : AFunc := { np := 1, ns := 13, res := [⟨1, none⟩], rsh := [[.a]], body := (.seq (.reg false [⟨.mv (.c (.bool false)), none⟩] [(1, 0)]) (.seq (.seq (.reg false [⟨.mv (.s 0), none⟩, ⟨.bin .eql (.l 0) (.c (.str [])), none⟩, ⟨.mv (.l 1), none⟩, ⟨.mv (.s 0), some (2, false)⟩, ⟨.lenS (.l 3), some (2, false)⟩, ⟨.bin .gtr (.l 4) (.c (.int .i64 16)), some (2, false)⟩, ⟨.pick (.l 2) (.c (.bool true)) (.l 5), none⟩] [(2, 6)]) (.cond (.s 2) (.seq (.reg false [⟨.mv (.c (.bool false)), none⟩] [(1, 0)]) .ret) .skip)) (.seq (.seq (.reg false [⟨.mv (.s 0), none⟩, ⟨.rng (.l 0), none⟩] [(3, 1)]) (.block 0 (.loop (.seq (.reg false [⟨.nxt (.s 3), none⟩, ⟨.ext (.l 0) 0, none⟩] [(5, 0), (4, 1)]) (.seq (.cond (.s 4) .skip (.exit 0)) (.block 1 (.seq (.reg false [⟨.ext (.s 5) 1, none⟩, ⟨.ext (.s 5) 2, none⟩, ⟨.mv (.l 0), none⟩, ⟨.mv (.l 1), none⟩] [(9, 2), (6, 3)]) (.block 2 (.seq (.reg false [⟨.mv (.s 6), none⟩, ⟨.bin .geq (.l 0) (.c (.int .i32 97)), none⟩, ⟨.mv (.l 1), none⟩, ⟨.mv (.s 6), some (2, true)⟩, ⟨.bin .leq (.l 3) (.c (.int .i32 122)), some (2, true)⟩, ⟨.pick (.l 2) (.l 4) (.c (.bool false)), none⟩, ⟨.mv (.l 5), none⟩] [(7, 6)]) (.cond (.s 7) .skip (.seq (.reg false [⟨.mv (.s 6), none⟩, ⟨.bin .geq (.l 0) (.c (.int .i32 48)), none⟩, ⟨.mv (.l 1), none⟩, ⟨.mv (.s 6), some (2, true)⟩, ⟨.bin .leq (.l 3) (.c (.int .i32 57)), some (2, true)⟩, ⟨.pick (.l 2) (.l 4) (.c (.bool false)), none⟩, ⟨.mv (.l 5), none⟩] [(8, 6)]) (.cond (.s 8) (.seq (.reg false [⟨.mv (.s 9), none⟩, ⟨.bin .eql (.l 0) (.c (.int .i64 0)), none⟩] [(10, 1)]) (.cond (.s 10) (.seq (.reg false [⟨.mv (.c (.bool false)), none⟩] [(1, 0)]) .ret) .skip)) (.seq (.reg false [⟨.mv (.s 6), none⟩, ⟨.bin .eql (.l 0) (.c (.int .i32 45)), none⟩, ⟨.mv (.l 1), none⟩] [(11, 2)]) (.cond (.s 11) (.seq (.reg false [⟨.mv (.s 9), none⟩, ⟨.bin .eql (.l 0) (.c (.int .i64 0)), none⟩, ⟨.mv (.l 1), none⟩, ⟨.mv (.s 9), some (2, false)⟩, ⟨.mv (.s 0), some (2, false)⟩, ⟨.lenS (.l 4), some (2, false)⟩, ⟨.bin .sub (.l 5) (.c (.int .i64 1)), some (2, false)⟩, ⟨.bin .eql (.l 3) (.l 6), some (2, false)⟩, ⟨.pick (.l 2) (.c (.bool true)) (.l 7), none⟩, ⟨.mv (.l 8), none⟩, ⟨.mv (.s 0), some (9, false)⟩, ⟨.mv (.s 9), some (9, false)⟩, ⟨.bin .sub (.l 11) (.c (.int .i64 1)), some (9, false)⟩, ⟨.ixS (.l 10) (.l 12), some (9, false)⟩, ⟨.bin .eql (.l 13) (.c (.int .u8 45)), some (9, false)⟩, ⟨.pick (.l 9) (.c (.bool true)) (.l 14), none⟩] [(12, 15)]) (.cond (.s 12) (.seq (.reg false [⟨.mv (.c (.bool false)), none⟩] [(1, 0)]) .ret) .skip)) (.seq (.reg false [⟨.mv (.c (.bool false)), none⟩] [(1, 0)]) .ret))))))))))))))) (.seq (.reg false [⟨.mv (.c (.bool true)), none⟩] [(1, 0)]) .ret)))) }
theorem w208 {Γ : Ctx} (hm : (Γ.at 0).Mono)  (s : Str)  : wpA (Γ.at 0) ident_Name.body (Res ident_Name (.bool (nameB s)) : Ex → List Ent → St → Prop) (env0 ident_Name [.str s]) ⟨0, []⟩ := by
  show wpA _ _ _ [⟨true, .str s⟩, .un, .un, .un, .un, .un, .un, .un, .un, .un, .un, .un, .un] ⟨0, []⟩
  refine wp_regseq ?_; refine r_mv ?_; refine reg_end (env' := [_, ⟨_, (.bool _)⟩, _, _, _, _, _, _, _, _, _, _, _]) ?_; refine wp_assoc ?_; refine wp_regseq ?_; refine r_mv ?_; refine r_eqlS ?_; refine r_mv ?_; refine r_mv ?_
  refine r_lenS fun _ => ?_
  refine r_gtrI ?_; refine r_or ?_; refine reg_end (env' := [_, _, ⟨_, (.bool _)⟩, _, _, _, _, _, _, _, _, _, _]) ?_
  refine wp_condseq (fun hc0 => ?_) (fun hc0 => ?_)
  · try simp only [b0, b1, b2, b3, b4, b5, b6, b7, b8, b9, b10, b11] at hc0
    refine wp_assoc ?_; refine wp_regseq ?_; refine r_mv ?_; refine reg_end (env' := [_, ⟨_, (.bool _)⟩, _, _, _, _, _, _, _, _, _, _, _]) ?_; refine wp_retseq ?_
    refine res_of trivial q2 q3 (Eq.trans q7 (congrArg D.bool ?_))
    symm; simp only [nameB]; rcases hc0 with h | h
    · subst h; simp
    · rw [decide_eq_false (by omega : ¬ s.length ≤ 16)]; simp
  · try simp only [b0, b1, b2, b3, b4, b5, b6, b7, b8, b9, b10, b11] at hc0
    refine wp_skipseq ?_; refine wp_assoc ?_; refine wp_regseq ?_; refine r_mv ?_; refine r_rng ?_; refine reg_end (env' := [_, _, _, ⟨_, _⟩, _, _, _, _, _, _, _, _, _]) ?_
    have h0 := List.length_pos_iff.2 hc0.1
    have hP := nameB_2 s (by omega) (by omega)
    refine wp_for hm (ι := Nat) (fun i => [⟨true, .str s⟩, .un, .un, ⟨true, .it 9⟩, .un, .un, .un, .un, .un, .un, .un, .un, .un]) (fun i => [(9, .iter s i)]) 10 (fun i => i ≤ s.length ∧ nameB s = allF (nch2 s) i s.length) (fun i => s.length - i) 0 ⟨by omega, hP⟩ (Ghost.to [(9, 9)] q7 q7 q4 q1) ?_
    rintro i ⟨hi, hr⟩
    refine wp_regseq ?_
    by_cases hnx : i < s.length
    · obtain ⟨c, w, hdec, hw, hcw⟩ := dec_spec s i hnx
      refine r_nxt1 c w (hp := hnx) (hc := hdec) ?_; refine r_ext (.bool _) ?_; refine reg_end (env' := [_, _, _, _, ⟨_, (.bool _)⟩, ⟨_, _⟩, _, _, _, _, _, _, _]) ?_
      refine wp_condseq (t := true) (fun _ => ?_) (fun h => by cases h)
      refine wp_skipseq ?_
      refine wp_blockL ?_ hm
      refine wp_regseq ?_; refine r_ext (.int _ _) ?_; refine r_ext (.int _ _) ?_; refine r_mv ?_; refine r_mv ?_; refine reg_end (env' := [_, _, _, _, _, _, ⟨_, (.int _ _)⟩, _, _, ⟨_, (.int _ _)⟩, _, _, _]) ?_
      refine wp_blockL ?_ hm
      refine wp_regseq ?_; refine r_mv ?_; refine r_geqI ?_; refine r_mv ?_; refine r_mv ?_; refine r_leqI ?_; refine r_and ?_; refine r_mv ?_; refine reg_end (env' := [_, _, _, _, _, _, _, ⟨_, (.bool _)⟩, _, _, _, _, _]) ?_
      refine wp_cond (fun hc2 => ?_) (fun hc2 => ?_)
      · try simp only [b0, b1, b2, b3, b4, b5, b6, b7, b8, b9, b10, b11] at hc2
        refine wp_skip ?_
        refine BQ0.normal ?_
        refine BQ0.normal ?_
        refine LQ.normal ?_
        obtain ⟨rfl, hat, -⟩ : w = 1 ∧ (c : Int) = at8 s i ∧ c < 128 := by
          rcases hcw with h | h
          · exact h
          · omega
        have hz : nch2 s i = true := by
          simp only [nch2, lowB, digitB, Bool.or_eq_true, Bool.and_eq_true, Bool.not_eq_true', decide_eq_true_eq, decide_eq_false_iff_not]; omega
        exact ⟨i + 1, ⟨by omega, by rw [hr, allF_lt hnx, hz]; rfl⟩, by omega, (Ghost.to [(9, 9)] q7 q7 q4 q1)⟩
      · try simp only [b0, b1, b2, b3, b4, b5, b6, b7, b8, b9, b10, b11] at hc2
        refine wp_regseq ?_; refine r_mv ?_; refine r_geqI ?_; refine r_mv ?_; refine r_mv ?_; refine r_leqI ?_; refine r_and ?_; refine r_mv ?_; refine reg_end (env' := [_, _, _, _, _, _, _, _, ⟨_, (.bool _)⟩, _, _, _, _]) ?_
        refine wp_cond (fun hc3 => ?_) (fun hc3 => ?_)
        · try simp only [b0, b1, b2, b3, b4, b5, b6, b7, b8, b9, b10, b11] at hc3
          refine wp_regseq ?_; refine r_mv ?_; refine r_eqlI ?_; refine reg_end (env' := [_, _, _, _, _, _, _, _, _, _, ⟨_, (.bool _)⟩, _, _]) ?_
          refine wp_cond (fun hc4 => ?_) (fun hc4 => ?_)
          · try simp only [b0, b1, b2, b3, b4, b5, b6, b7, b8, b9, b10, b11] at hc4
            refine wp_regseq ?_; refine r_mv ?_; refine reg_end (env' := [_, ⟨_, (.bool _)⟩, _, _, _, _, _, _, _, _, _, _, _]) ?_; refine wp_ret ?_
            refine BQ0.ret ?_
            refine BQ0.ret ?_
            refine LQ.ret ?_
            refine res_of trivial q2 q3 (Eq.trans q7 (congrArg D.bool ?_))
            first
              | (exfalso; omega)
              | (rw [hr, allF_ge (by omega)]; done)
              | (have hz : nch2 s i = false := by
                  rcases hcw with ⟨_, h, _⟩ | ⟨_, h⟩ <;> (simp only [nch2, lowB, digitB, Bool.or_eq_false_iff, Bool.and_eq_false_iff, Bool.not_eq_false', decide_eq_true_eq, decide_eq_false_iff_not]; omega)
                 rw [hr, allF_lt hnx, hz]; rfl)
          · try simp only [b0, b1, b2, b3, b4, b5, b6, b7, b8, b9, b10, b11] at hc4
            refine wp_skip ?_
            refine BQ0.normal ?_
            refine BQ0.normal ?_
            refine LQ.normal ?_
            obtain ⟨rfl, hat, -⟩ : w = 1 ∧ (c : Int) = at8 s i ∧ c < 128 := by
              rcases hcw with h | h
              · exact h
              · omega
            have hz : nch2 s i = true := by
              simp only [nch2, lowB, digitB, Bool.or_eq_true, Bool.and_eq_true, Bool.not_eq_true', decide_eq_true_eq, decide_eq_false_iff_not]; omega
            exact ⟨i + 1, ⟨by omega, by rw [hr, allF_lt hnx, hz]; rfl⟩, by omega, (Ghost.to [(9, 9)] q7 q7 q4 q1)⟩
        · try simp only [b0, b1, b2, b3, b4, b5, b6, b7, b8, b9, b10, b11] at hc3
          refine wp_regseq ?_; refine r_mv ?_; refine r_eqlI ?_; refine r_mv ?_; refine reg_end (env' := [_, _, _, _, _, _, _, _, _, _, _, ⟨_, (.bool _)⟩, _]) ?_
          refine wp_cond (fun hc5 => ?_) (fun hc5 => ?_)
          · try simp only [b0, b1, b2, b3, b4, b5, b6, b7, b8, b9, b10, b11] at hc5
            refine wp_regseq ?_; refine r_mv ?_; refine r_eqlI ?_; refine r_mv ?_; refine r_mv ?_; refine r_mv ?_
            refine r_lenS fun _ => ?_
            refine r_sub64 ?_; refine r_eqlI ?_; refine r_or ?_; refine r_mv ?_; refine r_mv ?_; refine r_mv ?_; refine r_sub64 ?_; refine r_ixS (i - 1) ?_; refine r_eqlI ?_; refine r_or ?_; refine reg_end (env' := [_, _, _, _, _, _, _, _, _, _, _, _, ⟨_, (.bool _)⟩]) ?_
            refine wp_cond (fun hc6 => ?_) (fun hc6 => ?_)
            · try simp only [b0, b1, b2, b3, b4, b5, b6, b7, b8, b9, b10, b11] at hc6
              refine wp_regseq ?_; refine r_mv ?_; refine reg_end (env' := [_, ⟨_, (.bool _)⟩, _, _, _, _, _, _, _, _, _, _, _]) ?_; refine wp_ret ?_
              refine BQ0.ret ?_
              refine BQ0.ret ?_
              refine LQ.ret ?_
              refine res_of trivial q2 q3 (Eq.trans q7 (congrArg D.bool ?_))
              first
                | (exfalso; omega)
                | (rw [hr, allF_ge (by omega)]; done)
                | (have hz : nch2 s i = false := by
                    rcases hcw with ⟨_, h, _⟩ | ⟨_, h⟩ <;> (simp only [nch2, lowB, digitB, Bool.or_eq_false_iff, Bool.and_eq_false_iff, Bool.not_eq_false', decide_eq_true_eq, decide_eq_false_iff_not]; omega)
                   rw [hr, allF_lt hnx, hz]; rfl)
            · try simp only [b0, b1, b2, b3, b4, b5, b6, b7, b8, b9, b10, b11] at hc6
              refine wp_skip ?_
              refine BQ0.normal ?_
              refine BQ0.normal ?_
              refine LQ.normal ?_
              obtain ⟨rfl, hat, -⟩ : w = 1 ∧ (c : Int) = at8 s i ∧ c < 128 := by
                rcases hcw with h | h
                · exact h
                · omega
              have hz : nch2 s i = true := by
                simp only [nch2, lowB, digitB, Bool.or_eq_true, Bool.and_eq_true, Bool.not_eq_true', decide_eq_true_eq, decide_eq_false_iff_not]; omega
              exact ⟨i + 1, ⟨by omega, by rw [hr, allF_lt hnx, hz]; rfl⟩, by omega, (Ghost.to [(9, 9)] q7 q7 q4 q1)⟩
          · try simp only [b0, b1, b2, b3, b4, b5, b6, b7, b8, b9, b10, b11] at hc5
            refine wp_regseq ?_; refine r_mv ?_; refine reg_end (env' := [_, ⟨_, (.bool _)⟩, _, _, _, _, _, _, _, _, _, _, _]) ?_; refine wp_ret ?_
            refine BQ0.ret ?_
            refine BQ0.ret ?_
            refine LQ.ret ?_
            refine res_of trivial q2 q3 (Eq.trans q7 (congrArg D.bool ?_))
            first
              | (exfalso; omega)
              | (rw [hr, allF_ge (by omega)]; done)
              | (have hz : nch2 s i = false := by
                  rcases hcw with ⟨_, h, _⟩ | ⟨_, h⟩ <;> (simp only [nch2, lowB, digitB, Bool.or_eq_false_iff, Bool.and_eq_false_iff, Bool.not_eq_false', decide_eq_true_eq, decide_eq_false_iff_not]; omega)
                 rw [hr, allF_lt hnx, hz]; rfl)
    · refine r_nxt0 (hp := hnx) ?_; refine r_ext (.bool _) ?_; refine reg_end (env' := [_, _, _, _, ⟨_, (.bool _)⟩, ⟨_, _⟩, _, _, _, _, _, _, _]) ?_
      refine wp_condseq (t := false) (fun h => by cases h) (fun _ => ?_)
      refine wp_exitseq ?_; refine LQ.out ?_; refine wp_regseq ?_; refine r_mv ?_; refine reg_end (env' := [_, ⟨_, (.bool _)⟩, _, _, _, _, _, _, _, _, _, _, _]) ?_; refine wp_ret ?_
      refine res_of trivial q2 q3 (Eq.trans q7 (congrArg D.bool ?_))
      first
        | (exfalso; omega)
        | (rw [hr, allF_ge (by omega)]; done)
        | (have hz : nch2 s i = false := by
            rcases hcw with ⟨_, h, _⟩ | ⟨_, h⟩ <;> (simp only [nch2, lowB, digitB, Bool.or_eq_false_iff, Bool.and_eq_false_iff, Bool.not_eq_false', decide_eq_true_eq, decide_eq_false_iff_not]; omega)
           rw [hr, allF_lt hnx, hz]; rfl)
def C208 (Γ : Ctx) : Prop := ∀ (s : Str), Γ.pre 208 [.str s] ∧ Γ.val 208 [.str s] = .bool (nameB s)
/-- linchpin/ident.Number -/
def ident_Number : AFunc := { np := 1, ns := 10, res := [⟨1, none⟩, ⟨2, none⟩], rsh := [[.a], [.a]], body := (.seq (.reg false [⟨.mv (.c (.int .i64 0)), none⟩, ⟨.mv (.c (.bool false)), none⟩] [(1, 0), (2, 1)]) (.seq (.seq (.reg false [⟨.mv (.s 0), none⟩, ⟨.bin .eql (.l 0) (.c (.str [])), none⟩, ⟨.mv (.l 1), none⟩, ⟨.mv (.s 0), some (2, false)⟩, ⟨.lenS (.l 3), some (2, false)⟩, ⟨.bin .gtr (.l 4) (.c (.int .i64 4)), some (2, false)⟩, ⟨.pick (.l 2) (.c (.bool true)) (.l 5), none⟩, ⟨.mv (.l 6), none⟩, ⟨.mv (.s 0), some (7, false)⟩, ⟨.ixS (.l 8) (.c (.int .i64 0)), some (7, false)⟩, ⟨.bin .eql (.l 9) (.c (.int .u8 48)), some (7, false)⟩, ⟨.mv (.l 10), some (7, false)⟩, ⟨.mv (.s 0), some (11, true)⟩, ⟨.lenS (.l 12), some (11, true)⟩, ⟨.bin .gtr (.l 13) (.c (.int .i64 1)), some (11, true)⟩, ⟨.pick (.l 11) (.l 14) (.c (.bool false)), some (7, false)⟩, ⟨.pick (.l 7) (.c (.bool true)) (.l 15), none⟩] [(3, 16)]) (.cond (.s 3) (.seq (.reg false [⟨.mv (.c (.int .i64 0)), none⟩, ⟨.mv (.c (.bool false)), none⟩] [(1, 0), (2, 1)]) .ret) .skip)) (.seq (.reg false [⟨.mv (.c (.int .i64 0)), none⟩] [(9, 0)]) (.seq (.seq (.reg false [⟨.mv (.s 0), none⟩, ⟨.rng (.l 0), none⟩] [(4, 1)]) (.block 0 (.loop (.seq (.reg false [⟨.nxt (.s 4), none⟩, ⟨.ext (.l 0) 0, none⟩] [(6, 0), (5, 1)]) (.seq (.cond (.s 5) .skip (.exit 0)) (.block 1 (.seq (.reg false [⟨.ext (.s 6) 2, none⟩, ⟨.mv (.l 0), none⟩] [(7, 1)]) (.block 2 (.seq (.reg false [⟨.mv (.s 7), none⟩, ⟨.bin .geq (.l 0) (.c (.int .i32 48)), none⟩, ⟨.mv (.l 1), none⟩, ⟨.mv (.s 7), some (2, true)⟩, ⟨.bin .leq (.l 3) (.c (.int .i32 57)), some (2, true)⟩, ⟨.pick (.l 2) (.l 4) (.c (.bool false)), none⟩, ⟨.mv (.l 5), none⟩] [(8, 6)]) (.cond (.s 8) (.reg false [⟨.mv (.s 9), none⟩, ⟨.bin .mul (.c (.int .i64 10)) (.l 0), none⟩, ⟨.mv (.s 7), none⟩, ⟨.bin .sub (.l 2) (.c (.int .i32 48)), none⟩, ⟨.cvi .i64 (.l 3), none⟩, ⟨.bin .add (.l 1) (.l 4), none⟩, ⟨.mv (.l 5), none⟩] [(9, 6)]) (.seq (.reg false [⟨.mv (.c (.int .i64 0)), none⟩, ⟨.mv (.c (.bool false)), none⟩] [(1, 0), (2, 1)]) .ret))))))))))) (.seq (.reg false [⟨.mv (.s 9), none⟩, ⟨.mv (.s 9), none⟩, ⟨.bin .leq (.l 1) (.c (.int .i64 9999)), none⟩, ⟨.mv (.l 0), none⟩, ⟨.mv (.l 2), none⟩] [(1, 3), (2, 4)]) .ret))))) }
theorem w658 {Γ : Ctx} (hm : (Γ.at 0).Mono)  (s : Str)  : wpA (Γ.at 0) ident_Number.body (Res ident_Number (.tup [.int .i64 (numO s), .bool (numB s)]) : Ex → List Ent → St → Prop) (env0 ident_Number [.str s]) ⟨0, []⟩ := by
  show wpA _ _ _ [⟨true, .str s⟩, .un, .un, .un, .un, .un, .un, .un, .un, .un] ⟨0, []⟩
  refine wp_regseq ?_; refine r_mv ?_; refine r_mv ?_; refine reg_end (env' := [_, ⟨_, (.int _ _)⟩, ⟨_, (.bool _)⟩, _, _, _, _, _, _, _]) ?_; refine wp_assoc ?_; refine wp_regseq ?_; refine r_mv ?_; refine r_eqlS ?_; refine r_mv ?_; refine r_mv ?_
  refine r_lenS fun _ => ?_
  refine r_gtrI ?_; refine r_or ?_; refine r_mv ?_; refine r_mv ?_
  refine r_ixS 0 (hb := fun h => by simp at h; exact List.length_pos_iff.2 h.1) ?_
  refine r_eqlI ?_; refine r_mv ?_; refine r_mv ?_
  refine r_lenS fun _ => ?_
  refine r_gtrI ?_; refine r_and ?_; refine r_or ?_; refine reg_end (env' := [_, _, _, ⟨_, (.bool _)⟩, _, _, _, _, _, _]) ?_
  refine wp_condseq (fun hc0 => ?_) (fun hc0 => ?_)
  · try simp only [b0, b1, b2, b3, b4, b5, b6, b7, b8, b9, b10, b11] at hc0
    refine wp_assoc ?_; refine wp_regseq ?_; refine r_mv ?_; refine r_mv ?_; refine reg_end (env' := [_, ⟨_, (.int _ _)⟩, ⟨_, (.bool _)⟩, _, _, _, _, _, _, _]) ?_; refine wp_retseq ?_
    refine res_of trivial q2 q3 (Eq.trans q7 (tup_eq2 (congrArg (D.int .i64) ?_) (congrArg D.bool ?_)))
    all_goals
      have : numB s = false := by
        rw [numB_4]; rcases hc0 with (h | h) | h
        · subst h; simp
        · rw [decide_eq_false (by omega : ¬ s.length ≤ 4)]; simp
        · rw [decide_eq_true (by omega : 1 < s.length), decide_eq_true h.1]; simp
      simp [numO, this]
  · try simp only [b0, b1, b2, b3, b4, b5, b6, b7, b8, b9, b10, b11] at hc0
    refine wp_skipseq ?_; refine wp_regseq ?_; refine r_mv ?_; refine reg_end (env' := [_, _, _, _, _, _, _, _, _, ⟨_, (.int _ _)⟩]) ?_; refine wp_assoc ?_; refine wp_regseq ?_; refine r_mv ?_; refine r_rng ?_; refine reg_end (env' := [_, _, _, _, ⟨_, _⟩, _, _, _, _, _]) ?_
    have h0 := List.length_pos_iff.2 hc0.1.1
    have hP : numB s = allF (fun i => digitB (at8 s i)) 0 s.length := by
      rw [numB_4, decide_eq_true (by omega : 1 ≤ s.length), decide_eq_true (by omega : s.length ≤ 4)]; rcases hc0.2 with h | h
      · rw [decide_eq_false h, Bool.and_false]; rfl
      · rw [decide_eq_false (by omega : ¬ 1 < s.length)]; rfl
    refine wp_for hm (ι := Nat) (fun i => [⟨true, .str s⟩, .un, .un, .un, ⟨true, .it 21⟩, .un, .un, .un, .un, ⟨true, .int .i64 (numVal (s.take i) : Nat)⟩]) (fun i => [(21, .iter s i)]) 22 (fun i => i ≤ s.length ∧ s.length ≤ 4 ∧ numB s = allF (fun i => digitB (at8 s i)) i s.length) (fun i => s.length - i) 0 ⟨by omega, by omega, hP⟩ (Ghost.to [(21, 21)] q7 q7 q4 q1) ?_
    rintro i ⟨hi, h9, hr⟩
    refine wp_regseq ?_
    by_cases hnx : i < s.length
    · obtain ⟨c, w, hdec, hw, hcw⟩ := dec_spec s i hnx
      refine r_nxt1 c w (hp := hnx) (hc := hdec) ?_; refine r_ext (.bool _) ?_; refine reg_end (env' := [_, _, _, _, _, ⟨_, (.bool _)⟩, ⟨_, _⟩, _, _, _]) ?_
      refine wp_condseq (t := true) (fun _ => ?_) (fun h => by cases h)
      refine wp_skipseq ?_
      refine wp_blockL ?_ hm
      refine wp_regseq ?_; refine r_ext (.int _ _) ?_; refine r_mv ?_; refine reg_end (env' := [_, _, _, _, _, _, _, ⟨_, (.int _ _)⟩, _, _]) ?_
      refine wp_blockL ?_ hm
      refine wp_regseq ?_; refine r_mv ?_; refine r_geqI ?_; refine r_mv ?_; refine r_mv ?_; refine r_leqI ?_; refine r_and ?_; refine r_mv ?_; refine reg_end (env' := [_, _, _, _, _, _, _, _, ⟨_, (.bool _)⟩, _]) ?_
      refine wp_cond (fun hc2 => ?_) (fun hc2 => ?_)
      · try simp only [b0, b1, b2, b3, b4, b5, b6, b7, b8, b9, b10, b11] at hc2
        refine wp_reg ?_
        obtain ⟨rfl, hat, -⟩ : w = 1 ∧ (c : Int) = at8 s i ∧ c < 128 := by
          rcases hcw with h | h
          · exact h
          · omega
        have hn := numVal_small s i (by omega)
        have hn2 := numVal_succ s i (by omega)
        have h256 := at8_lt s i
        refine r_mv ?_; refine r_mul64 ?_; refine r_mv ?_
        refine r_subK ((c : Int) - 48) (hb := fun _ => IntWalk.i32_in _ (by omega)) ?_
        refine r_cvi ((c : Int) - 48) (hb := fun _ => IntWalk.i64_in _ (by omega)) ?_
        refine r_add64 ?_; refine r_mv ?_; refine reg_fin (env' := [_, _, _, _, _, _, _, _, _, ⟨_, (.int _ _)⟩]) ?_
        rw [show 10 * (numVal (s.take i) : Int) + ((c : Int) - 48) = (numVal (s.take (i + 1)) : Nat) by omega]
        refine BQ0.normal ?_
        refine BQ0.normal ?_
        refine LQ.normal ?_
        have hz : digitB (at8 s i) = true := by
          simp only [digitB, Bool.and_eq_true, decide_eq_true_eq]; omega
        exact ⟨i + 1, ⟨by omega, h9, by rw [hr, allF_lt (by omega), hz]; rfl⟩, by omega, (Ghost.to [(21, 21)] q7 q7 q4 q1)⟩
      · try simp only [b0, b1, b2, b3, b4, b5, b6, b7, b8, b9, b10, b11] at hc2
        refine wp_regseq ?_; refine r_mv ?_; refine r_mv ?_; refine reg_end (env' := [_, ⟨_, (.int _ _)⟩, ⟨_, (.bool _)⟩, _, _, _, _, _, _, _]) ?_; refine wp_ret ?_
        refine BQ0.ret ?_
        refine BQ0.ret ?_
        refine LQ.ret ?_
        refine res_of trivial q2 q3 (Eq.trans q7 (tup_eq2 (congrArg (D.int .i64) ?_) (congrArg D.bool ?_)))
        all_goals
          have hz : digitB (at8 s i) = false := by
            rcases hcw with ⟨_, h, _⟩ | ⟨_, h⟩ <;> (simp only [digitB, Bool.and_eq_false_iff, decide_eq_false_iff_not]; omega)
          have : numB s = false := by rw [hr, allF_lt (by omega), hz]; rfl
          simp [numO, this]
    · refine r_nxt0 (hp := hnx) ?_; refine r_ext (.bool _) ?_; refine reg_end (env' := [_, _, _, _, _, ⟨_, (.bool _)⟩, ⟨_, _⟩, _, _, _]) ?_
      refine wp_condseq (t := false) (fun h => by cases h) (fun _ => ?_)
      refine wp_exitseq ?_; refine LQ.out ?_; refine wp_regseq ?_; refine r_mv ?_; refine r_mv ?_; refine r_leqI ?_; refine r_mv ?_; refine r_mv ?_; refine reg_end (env' := [_, ⟨_, (.int _ _)⟩, ⟨_, (.bool _)⟩, _, _, _, _, _, _, _]) ?_; refine wp_ret ?_
      refine res_of trivial q2 q3 (Eq.trans q7 (tup_eq2 (congrArg (D.int .i64) ?_) (congrArg D.bool ?_)))
      all_goals
        have this : numB s = true := by rw [hr, allF_ge (by omega)]
        have ht : s.take i = s := List.take_of_length_le (by omega)
        have h9 := this
        simp only [numB, Bool.and_eq_true, decide_eq_true_eq] at h9
        have h99 := h9.2
        rw [ht]
        first
        | (simp only [numO, this]; rfl)
        | (rw [this, decide_eq_true_eq]; omega)
def C658 (Γ : Ctx) : Prop := ∀ (s : Str), Γ.pre 658 [.str s] ∧ Γ.val 658 [.str s] = .tup [.int .i64 (numO s), .bool (numB s)]
/-- linchpin/digest.digit -/
def digest_digit : AFunc := { np := 1, ns := 3, res := [⟨1, none⟩], rsh := [[.a]], body := (.seq (.reg false [⟨.mv (.c (.int .u8 0)), none⟩] [(1, 0)]) (.seq (.seq (.reg false [⟨.mv (.s 0), none⟩, ⟨.bin .lss (.l 0) (.c (.int .u8 10)), none⟩] [(2, 1)]) (.cond (.s 2) (.seq (.reg false [⟨.mv (.s 0), none⟩, ⟨.bin .add (.c (.int .u8 48)) (.l 0), none⟩, ⟨.mv (.l 1), none⟩] [(1, 2)]) .ret) .skip)) (.seq (.reg false [⟨.mv (.s 0), none⟩, ⟨.bin .add (.c (.int .u8 97)) (.l 0), none⟩, ⟨.bin .sub (.l 1) (.c (.int .u8 10)), none⟩, ⟨.mv (.l 2), none⟩] [(1, 3)]) .ret))) }
theorem w686 {Γ : Ctx} (hm : (Γ.at 0).Mono)  (k : Nat) (hp0 : k < 16) : wpA (Γ.at 0) digest_digit.body (Res digest_digit (.int .u8 ((hexD k).toNat : Nat)) : Ex → List Ent → St → Prop) (env0 digest_digit [.int .u8 (k : Nat)]) ⟨0, []⟩ := by
  show wpA _ _ _ [⟨true, .int .u8 (k : Nat)⟩, .un, .un] ⟨0, []⟩
  refine wp_regseq ?_; refine r_mv ?_; refine reg_end (env' := [_, ⟨_, (.int _ _)⟩, _]) ?_; refine wp_assoc ?_; refine wp_regseq ?_; refine r_mv ?_
  first | refine r_lssI ?_ | refine r_lssS ?_
  refine reg_end (env' := [_, _, ⟨_, (.bool _)⟩]) ?_
  refine wp_condseq (fun hc0 => ?_) (fun hc0 => ?_)
  · try simp only [b0, b1, b2, b3, b4, b5, b6, b7, b8, b9, b10, b11] at hc0
    refine wp_assoc ?_; refine wp_regseq ?_; refine r_mv ?_
    refine r_addK (48 + (k : Int)) (hb := fun _ => IntWalk.u8_in _ (by omega)) ?_
    refine r_mv ?_; refine reg_end (env' := [_, ⟨_, (.int _ _)⟩, _]) ?_; refine wp_retseq ?_
    refine res_of trivial q2 q3 (Eq.trans q7 (congrArg (D.int .u8) ?_))
    exact (hexD_lt k (by omega)).symm
  · try simp only [b0, b1, b2, b3, b4, b5, b6, b7, b8, b9, b10, b11] at hc0
    refine wp_skipseq ?_; refine wp_regseq ?_; refine r_mv ?_
    refine r_addK (97 + (k : Int)) (hb := fun _ => IntWalk.u8_in _ (by omega)) ?_
    refine r_subK (87 + (k : Int)) (hb := fun _ => by rw [show 97 + (k : Int) - 10 = 87 + k by omega]; exact IntWalk.u8_in _ (by omega)) ?_
    refine r_mv ?_; refine reg_end (env' := [_, ⟨_, (.int _ _)⟩, _]) ?_; refine wp_ret ?_
    refine res_of trivial q2 q3 (Eq.trans q7 (congrArg (D.int .u8) ?_))
    exact (hexD_ge k (by omega) hp0).symm
def C686 (Γ : Ctx) : Prop := ∀ (k : Nat), (k < 16) → Γ.pre 686 [.int .u8 (k : Nat)] ∧ Γ.val 686 [.int .u8 (k : Nat)] = .int .u8 ((hexD k).toNat : Nat)
/-- linchpin/digest.Text -/
def digest_Text : AFunc := { np := 1, ns := 7, res := [⟨1, none⟩], rsh := [[.a]], body := (.seq (.reg false [⟨.mv (.c (.str [])), none⟩] [(1, 0)]) (.seq (.reg false [⟨.mks 1 (.int .u8 0) (.c (.int .i64 16)) (.c (.int .i64 16)), none⟩, ⟨.mv (.l 0), none⟩] [(2, 1)]) (.seq (.seq (.reg false [⟨.mv (.s 2), none⟩, ⟨.len (.l 0), none⟩, ⟨.mv (.c (.int .i64 0)), none⟩] [(4, 1), (3, 2)]) (.block 0 (.loop (.seq (.reg false [⟨.bin .lss (.s 3) (.s 4), none⟩] [(5, 0)]) (.seq (.cond (.s 5) .skip (.exit 0)) (.seq (.block 1 (.seq (.reg false [⟨.mv (.s 3), none⟩, ⟨.mv (.l 0), none⟩] [(6, 1)]) (.reg false [⟨.mv (.s 2), none⟩, ⟨.mv (.s 6), none⟩, ⟨.bin .sub (.c (.int .i64 15)) (.l 1), none⟩, ⟨.mv (.s 0), none⟩, ⟨.mv (.s 6), none⟩, ⟨.bin .mul (.c (.int .i64 4)) (.l 4), none⟩, ⟨.bin .shr (.l 3) (.l 5), none⟩, ⟨.bin .and (.l 6) (.c (.int .u64 15)), none⟩, ⟨.cvi .u8 (.l 7), none⟩, ⟨.call 686 [(.l 8)] [[.a]], none⟩, ⟨.ia 1 (.l 0) (.l 2), none⟩, ⟨.st 1 (.l 10) (.l 9), none⟩] []))) (.reg false [⟨.bin .add (.s 3) (.c (.int .i64 1)), none⟩, ⟨.mv (.l 0), none⟩] [(3, 1)]))))))) (.seq (.reg false [⟨.mv (.s 2), none⟩, ⟨.b2s (.l 0), none⟩, ⟨.mv (.l 1), none⟩] [(1, 2)]) .ret)))) }
theorem w497 {Γ : Ctx} (hm : (Γ.at 0).Mono) (h686 : C686 (Γ.at 0)) (n : Int)  : wpA (Γ.at 0) digest_Text.body (Res digest_Text (.str (textL n)) : Ex → List Ent → St → Prop) (env0 digest_Text [.int .u64 n]) ⟨0, []⟩ := by
  show wpA _ _ _ [⟨true, .int .u64 n⟩, .un, .un, .un, .un, .un, .un] ⟨0, []⟩
  refine wp_regseq ?_; refine r_mv ?_; refine reg_end (env' := [_, ⟨_, (.str _)⟩, _, _, _, _, _]) ?_; refine wp_regseq ?_; refine r_mks _ ?_; refine r_mv ?_; refine reg_end (env' := [_, _, ⟨_, (.own _ _ _ _)⟩, _, _, _, _]) ?_; refine wp_assoc ?_; refine wp_regseq ?_; refine r_mv ?_
  refine r_lenO fun hlR2_1 => ?_; replace hlR2_1 := hlR2_1 rfl rfl
  refine r_mv ?_; refine reg_end (env' := [_, _, _, ⟨_, (.int _ _)⟩, ⟨_, (.int _ _)⟩, _, _]) ?_
  refine wp_for hm (ι := Nat) (fun i => [⟨true, .int .u64 n⟩, .un, ⟨true, .own 1 1 0 16⟩, ⟨true, .int .i64 (i : Nat)⟩, ⟨true, .int .i64 (16 : Nat)⟩, .un, .un]) (fun i => [(1, .buf 1 ((textB n i).map fun b => D.int .u8 b.toNat))]) 6 (fun i => i ≤ 16) (fun i => 16 - i) 0 (by omega) (Ghost.to [(1, 1)] q7 q7 q4 q1) ?_
  intro i hi
  have hlen := textB_len n i
  refine wp_regseq ?_; refine r_lssI ?_; refine reg_end (env' := [_, _, _, _, _, ⟨_, (.bool _)⟩, _]) ?_
  refine wp_condseq (fun hc0 => ?_) (fun hc0 => ?_)
  · try simp only [b0, b1, b2, b3, b4, b5, b6, b7, b8, b9, b10, b11] at hc0
    refine wp_skipseq ?_
    refine wp_blockseq ?_ hm
    refine wp_regseq ?_; refine r_mv ?_; refine r_mv ?_; refine reg_end (env' := [_, _, _, _, _, _, ⟨_, (.int _ _)⟩]) ?_; refine wp_reg ?_; refine r_mv ?_; refine r_mv ?_; refine r_sub64 ?_; refine r_mv ?_; refine r_mv ?_; refine r_mul64 ?_
    refine r_shr (shr64 n (4 * i)) (hb := fun _ => by rw [show min (Int.toNat (4 * (i : Int))) (IntKind.bits .u64) = 4 * i by simp [IntKind.bits]; omega]; rfl) ?_
    refine r_band ((nib n i : Nat) : Int) (hb := fun _ => nib_wrap n i) ?_; have hnib := nib_lt n i
    refine r_cvi ((nib n i : Nat) : Int) (hb := fun _ => IntWalk.u8_in _ (by omega)) ?_
    refine r_call (hc := h686 (nib n i) hnib) ?_; refine r_iaO (15 - i) ?_
    refine r_stE ((textB n (i + 1)).map fun b => D.int .u8 b.toNat) (hi := by simp; omega) (he := by rw [textB_set n i (by omega)]; simp [stEl]) ?_
    refine reg_fin (env' := [_, _, _, _, _, _, _]) ?_; refine BQ.normal ?_; refine wp_reg ?_; refine r_add64 ?_; refine r_mv ?_; refine reg_fin (env' := [_, _, _, ⟨_, (.int _ _)⟩, _, _, _]) ?_; refine LQ.normal ?_
    exact ⟨i + 1, (by omega), by omega, (Ghost.to [(1, 1)] q7 q7 q4 q1)⟩
  · try simp only [b0, b1, b2, b3, b4, b5, b6, b7, b8, b9, b10, b11] at hc0
    refine wp_exitseq ?_; refine LQ.out ?_; refine wp_regseq ?_
    have h16 : i = 16 := by omega
    subst h16
    refine r_mv ?_
    refine r_b2s (textL n) (he := fun _ => Els.all q7 (by simp [textB_len])) (hs := fun _ => by rw [textB_all]) ?_
    refine r_mv ?_; refine reg_end (env' := [_, ⟨_, (.str _)⟩, _, _, _, _, _]) ?_; refine wp_ret ?_
    refine res_of trivial q2 q3 (Eq.trans q7 (congrArg D.str ?_))
    rfl
def C497 (Γ : Ctx) : Prop := ∀ (n : Int), Γ.pre 497 [.int .u64 n] ∧ Γ.val 497 [.int .u64 n] = .str (textL n)
end Go.Abs
end
section
namespace Go.Abs
open Go
/-- linchpin/ident.Split -/
def ident_Split : AFunc := { np := 2, ns := 10, res := [⟨2, none⟩], rsh := [[.sl 1 [.a]]], body := (.seq (.reg false [⟨.mv (.c (.nils)), none⟩] [(2, 0)]) (.seq (.reg false [⟨.mv (.c (.nils)), none⟩] [(8, 0)]) (.seq (.reg false [⟨.mv (.c (.int .i64 0)), none⟩] [(9, 0)]) (.seq (.seq (.reg false [⟨.mv (.s 0), none⟩, ⟨.lenS (.l 0), none⟩, ⟨.mv (.c (.int .i64 0)), none⟩] [(4, 1), (3, 2)]) (.block 0 (.loop (.seq (.reg false [⟨.bin .lss (.s 3) (.s 4), none⟩] [(5, 0)]) (.seq (.cond (.s 5) .skip (.exit 0)) (.seq (.block 1 (.seq (.reg false [⟨.mv (.s 3), none⟩, ⟨.mv (.l 0), none⟩] [(6, 1)]) (.seq (.reg false [⟨.mv (.s 0), none⟩, ⟨.mv (.s 6), none⟩, ⟨.ixS (.l 0) (.l 1), none⟩, ⟨.mv (.s 1), none⟩, ⟨.bin .eql (.l 2) (.l 3), none⟩] [(7, 4)]) (.cond (.s 7) (.seq (.reg false [⟨.mv (.s 8), none⟩, ⟨.mv (.s 0), none⟩, ⟨.mv (.s 9), none⟩, ⟨.mv (.s 6), none⟩, ⟨.slS (.l 1) (some (.l 2)) (some (.l 3)), none⟩, ⟨.bsl 1 (.str []) 1 [(0, (.l 4))], none⟩, ⟨.app 1 (.l 0) (.l 5), none⟩, ⟨.mv (.l 6), none⟩] [(8, 7)]) (.reg false [⟨.mv (.s 6), none⟩, ⟨.bin .add (.l 0) (.c (.int .i64 1)), none⟩, ⟨.mv (.l 1), none⟩] [(9, 2)])) .skip)))) (.reg false [⟨.bin .add (.s 3) (.c (.int .i64 1)), none⟩, ⟨.mv (.l 0), none⟩] [(3, 1)]))))))) (.seq (.reg false [⟨.mv (.s 8), none⟩, ⟨.mv (.s 0), none⟩, ⟨.mv (.s 9), none⟩, ⟨.slS (.l 1) (some (.l 2)) none, none⟩, ⟨.bsl 1 (.str []) 1 [(0, (.l 3))], none⟩, ⟨.app 1 (.l 0) (.l 4), none⟩, ⟨.mv (.l 5), none⟩] [(2, 6)]) .ret))))) }
theorem w533 {Γ : Ctx} (hm : (Γ.at 0).Mono)  (s : Str) (b : Int) (hp0 : s.length ≤ 1048576) : wpA (Γ.at 0) ident_Split.body (Res ident_Split (.sl 1 ((splitL s b).map D.str)) : Ex → List Ent → St → Prop) (env0 ident_Split [.str s, .int .u8 b]) ⟨0, []⟩ := by
  show wpA _ _ _ [⟨true, .str s⟩, ⟨true, .int .u8 b⟩, .un, .un, .un, .un, .un, .un, .un, .un] ⟨0, []⟩
  refine wp_regseq ?_; refine r_mv ?_; refine reg_end (env' := [_, _, ⟨_, .nils⟩, _, _, _, _, _, _, _]) ?_; refine wp_regseq ?_; refine r_mv ?_; refine reg_end (env' := [_, _, _, _, _, _, _, _, ⟨_, .nils⟩, _]) ?_; refine wp_regseq ?_; refine r_mv ?_; refine reg_end (env' := [_, _, _, _, _, _, _, _, _, ⟨_, (.int _ _)⟩]) ?_; refine wp_assoc ?_; refine wp_regseq ?_; refine r_mv ?_
  refine r_lenS fun hlR3_1 => ?_; replace hlR3_1 := hlR3_1 rfl rfl
  refine r_mv ?_; refine reg_end (env' := [_, _, _, ⟨_, (.int _ _)⟩, ⟨_, (.int _ _)⟩, _, _, _, _, _]) ?_
  refine wp_for hm (ι := (Nat × Nat × List Str)) (fun p : Nat × Nat × List Str => [⟨true, .str s⟩, ⟨true, .int .u8 b⟩, .un, ⟨true, .int .i64 (p.1 : Nat)⟩, ⟨true, .int .i64 (s.length : Nat)⟩, .un, .un, .un, ⟨true, .own 0 1 0 p.2.2.length⟩, ⟨true, .int .i64 (p.2.1 : Nat)⟩]) (fun p => [(0, .buf 1 (p.2.2.map D.str))]) 6 (fun p => p.1 ≤ s.length ∧ p.2.1 ≤ p.1 ∧ p.2.2.length ≤ p.1 ∧ splitL s b = p.2.2 ++ splitX b (s.drop p.1) ((s.take p.1).drop p.2.1)) (fun p => s.length - p.1) (0, 0, []) ⟨by simp, by simp, by simp, rfl⟩ (Ghost.to [] q7 q7 (by repeat (first | exact RnE.nil | refine RnE.un ?_ | refine RnE.eq q7 ?_ | refine RnE.nl q7 q7 ?_ | refine RnE.ni (Or.inr ⟨0, 1, 0, rfl⟩) ?_)) (by repeat (first | exact RnM.nil | refine RnM.mt q7 q7 q7 q7 ?_))) ?_
  rintro ⟨i, fr, acc⟩ ⟨hi, hf, ha, hr⟩
  dsimp only at hi hf ha hr ⊢
  refine wp_regseq ?_; refine r_lssI ?_; refine reg_end (env' := [_, _, _, _, _, ⟨_, (.bool _)⟩, _, _, _, _]) ?_
  refine wp_condseq (fun hc0 => ?_) (fun hc0 => ?_)
  · try simp only [b0, b1, b2, b3, b4, b5, b6, b7, b8, b9, b10, b11] at hc0
    refine wp_skipseq ?_
    refine wp_blockseq ?_ hm
    refine wp_regseq ?_; refine r_mv ?_; refine r_mv ?_; refine reg_end (env' := [_, _, _, _, _, _, ⟨_, (.int _ _)⟩, _, _, _]) ?_; refine wp_regseq ?_; refine r_mv ?_; refine r_mv ?_
    first | refine r_ixS _ ?_ | refine r_ixST ?_
    refine r_mv ?_; refine r_eqlI ?_; refine reg_end (env' := [_, _, _, _, _, _, _, ⟨_, (.bool _)⟩, _, _]) ?_
    refine wp_cond (fun hc1 => ?_) (fun hc1 => ?_)
    · try simp only [b0, b1, b2, b3, b4, b5, b6, b7, b8, b9, b10, b11] at hc1
      refine wp_regseq ?_; refine r_mv ?_; refine r_mv ?_; refine r_mv ?_; refine r_mv ?_; refine r_slS_lh _ _ ?_; refine r_bsl [(.str _)] ?_; refine r_app1 ?_; refine r_mv ?_; refine reg_end (env' := [_, _, _, _, _, _, _, _, ⟨_, (.own _ _ _ _)⟩, _]) ?_; refine wp_reg ?_; refine r_mv ?_; refine r_add64 ?_; refine r_mv ?_; refine reg_fin (env' := [_, _, _, _, _, _, _, _, _, ⟨_, (.int _ _)⟩]) ?_; refine BQ.normal ?_; refine wp_reg ?_; refine r_add64 ?_; refine r_mv ?_; refine reg_fin (env' := [_, _, _, ⟨_, (.int _ _)⟩, _, _, _, _, _, _]) ?_; refine LQ.normal ?_
      exact ⟨(i + 1, i + 1, acc ++ [(s.take i).drop fr]), ⟨by dsimp only; omega, by dsimp only; omega, by simp; omega, by rw [hr, splitX_eq (by omega) hc1]; simp⟩, by dsimp only; omega, (Ghost.to [(20, 0)] q7 q7 q6 (by refine RnM.nl 20 q7 q7 q7 q5 ?_; exact RnM.nil))⟩
    · simp only [decide_eq_false_iff_not] at hc1
      refine wp_skip ?_; refine BQ.normal ?_; refine wp_reg ?_; refine r_add64 ?_; refine r_mv ?_; refine reg_fin (env' := [_, _, _, ⟨_, (.int _ _)⟩, _, _, _, _, _, _]) ?_; refine LQ.normal ?_
      exact ⟨(i + 1, fr, acc), ⟨by dsimp only; omega, by dsimp only; omega, by dsimp only; omega, by rw [hr, splitX_ne (by omega) (by omega) hc1]⟩, by dsimp only; omega, (Ghost.to [(0, 0)] q7 q7 q6 (by refine RnM.nl 0 q7 q7 q7 q5 ?_; exact RnM.nil))⟩
  · try simp only [b0, b1, b2, b3, b4, b5, b6, b7, b8, b9, b10, b11] at hc0
    refine wp_exitseq ?_; refine LQ.out ?_; refine wp_regseq ?_; refine r_mv ?_; refine r_mv ?_; refine r_mv ?_; refine r_slS_lo _ ?_; refine r_bsl [(.str _)] ?_; refine r_app1 ?_; refine r_mv ?_; refine reg_end (env' := [_, _, ⟨_, (.own _ _ _ _)⟩, _, _, _, _, _, _, _]) ?_; refine wp_fz 12 ?_; refine wp_ret ?_
    refine res_of trivial q2 q3 (Eq.trans q7 (?_))
    have hs : splitL s b = acc ++ [s.drop fr] := by rw [hr, splitX_end (by omega)]
    rw [hs]
    exact rfl
def C533 (Γ : Ctx) : Prop := ∀ (s : Str) (b : Int), (s.length ≤ 1048576) → Γ.pre 533 [.str s, .int .u8 b] ∧ Γ.val 533 [.str s, .int .u8 b] = .sl 1 ((splitL s b).map D.str)
/-- linchpin/version.numeric -/
def version_numeric : AFunc := { np := 1, ns := 7, res := [⟨1, none⟩], rsh := [[.a]], body := (.seq (.reg false [⟨.mv (.c (.bool false)), none⟩] [(1, 0)]) (.seq (.seq (.reg false [⟨.mv (.s 0), none⟩, ⟨.lenS (.l 0), none⟩, ⟨.mv (.c (.int .i64 0)), none⟩] [(3, 1), (2, 2)]) (.block 0 (.loop (.seq (.reg false [⟨.bin .lss (.s 2) (.s 3), none⟩] [(4, 0)]) (.seq (.cond (.s 4) .skip (.exit 0)) (.seq (.block 1 (.seq (.reg false [⟨.mv (.s 2), none⟩, ⟨.mv (.l 0), none⟩] [(5, 1)]) (.seq (.reg false [⟨.mv (.s 0), none⟩, ⟨.mv (.s 5), none⟩, ⟨.ixS (.l 0) (.l 1), none⟩, ⟨.bin .lss (.l 2) (.c (.int .u8 48)), none⟩, ⟨.mv (.l 3), none⟩, ⟨.mv (.s 0), some (4, false)⟩, ⟨.mv (.s 5), some (4, false)⟩, ⟨.ixS (.l 5) (.l 6), some (4, false)⟩, ⟨.bin .gtr (.l 7) (.c (.int .u8 57)), some (4, false)⟩, ⟨.pick (.l 4) (.c (.bool true)) (.l 8), none⟩] [(6, 9)]) (.cond (.s 6) (.seq (.reg false [⟨.mv (.c (.bool false)), none⟩] [(1, 0)]) .ret) .skip)))) (.reg false [⟨.bin .add (.s 2) (.c (.int .i64 1)), none⟩, ⟨.mv (.l 0), none⟩] [(2, 1)]))))))) (.seq (.reg false [⟨.mv (.s 0), none⟩, ⟨.bin .neq (.l 0) (.c (.str [])), none⟩, ⟨.mv (.l 1), none⟩] [(1, 2)]) .ret))) }
theorem w659 {Γ : Ctx} (hm : (Γ.at 0).Mono)  (t : Str)  : wpA (Γ.at 0) version_numeric.body (Res version_numeric (.bool (numericB t)) : Ex → List Ent → St → Prop) (env0 version_numeric [.str t]) ⟨0, []⟩ := by
  show wpA _ _ _ [⟨true, .str t⟩, .un, .un, .un, .un, .un, .un] ⟨0, []⟩
  refine wp_regseq ?_; refine r_mv ?_; refine reg_end (env' := [_, ⟨_, (.bool _)⟩, _, _, _, _, _]) ?_; refine wp_assoc ?_; refine wp_regseq ?_; refine r_mv ?_
  refine r_lenS fun hlR1_1 => ?_; replace hlR1_1 := hlR1_1 rfl rfl
  refine r_mv ?_; refine reg_end (env' := [_, _, ⟨_, (.int _ _)⟩, ⟨_, (.int _ _)⟩, _, _, _]) ?_
  refine wp_for hm (ι := Nat) (fun i => [⟨true, .str t⟩, .un, ⟨true, .int .i64 (i : Nat)⟩, ⟨true, .int .i64 (t.length : Nat)⟩, .un, .un, .un]) (fun i => []) 4 (fun i => i ≤ t.length ∧ allF (fun i => digitB (at8 t i)) 0 t.length = allF (fun i => digitB (at8 t i)) i t.length) (fun i => t.length - i) 0 ⟨by omega, rfl⟩ (Ghost.to [] q7 q7 q4 q1) ?_
  rintro i ⟨hi, hr⟩
  refine wp_regseq ?_; refine r_lssI ?_; refine reg_end (env' := [_, _, _, _, ⟨_, (.bool _)⟩, _, _]) ?_
  refine wp_condseq (fun hc0 => ?_) (fun hc0 => ?_)
  · try simp only [b0, b1, b2, b3, b4, b5, b6, b7, b8, b9, b10, b11] at hc0
    refine wp_skipseq ?_
    refine wp_blockseq ?_ hm
    refine wp_regseq ?_; refine r_mv ?_; refine r_mv ?_; refine reg_end (env' := [_, _, _, _, _, ⟨_, (.int _ _)⟩, _]) ?_; refine wp_regseq ?_; refine r_mv ?_; refine r_mv ?_
    first | refine r_ixS _ ?_ | refine r_ixST ?_
    refine r_lssI ?_; refine r_mv ?_; refine r_mv ?_; refine r_mv ?_
    first | refine r_ixS _ ?_ | refine r_ixST ?_
    refine r_gtrI ?_; refine r_or ?_; refine reg_end (env' := [_, _, _, _, _, _, ⟨_, (.bool _)⟩]) ?_
    refine wp_cond (fun hc1 => ?_) (fun hc1 => ?_)
    · try simp only [b0, b1, b2, b3, b4, b5, b6, b7, b8, b9, b10, b11] at hc1
      refine wp_regseq ?_; refine r_mv ?_; refine reg_end (env' := [_, ⟨_, (.bool _)⟩, _, _, _, _, _]) ?_; refine wp_ret ?_; refine BQ.ret ?_; refine LQ.ret ?_
      refine res_of trivial q2 q3 (Eq.trans q7 (congrArg D.bool ?_))
      simp only [numericB]; rw [hr, allF_lt (by omega)]; rcases hc1 with h | h <;> simp [digitB] <;> omega
    · try simp only [b0, b1, b2, b3, b4, b5, b6, b7, b8, b9, b10, b11] at hc1
      refine wp_skip ?_; refine BQ.normal ?_; refine wp_reg ?_; refine r_add64 ?_; refine r_mv ?_; refine reg_fin (env' := [_, _, ⟨_, (.int _ _)⟩, _, _, _, _]) ?_; refine LQ.normal ?_
      exact ⟨i + 1, ⟨by omega, by rw [hr, allF_lt (by omega)]; rw [show digitB (at8 t i) = true by simp only [digitB, Bool.and_eq_true, decide_eq_true_eq]; omega]; rfl⟩, by omega, (Ghost.to [] q7 q7 q4 q1)⟩
  · try simp only [b0, b1, b2, b3, b4, b5, b6, b7, b8, b9, b10, b11] at hc0
    refine wp_exitseq ?_; refine LQ.out ?_; refine wp_regseq ?_; refine r_mv ?_; refine r_neqS ?_; refine r_mv ?_; refine reg_end (env' := [_, ⟨_, (.bool _)⟩, _, _, _, _, _]) ?_; refine wp_ret ?_
    refine res_of trivial q2 q3 (Eq.trans q7 (congrArg D.bool ?_))
    simp only [numericB]; rw [hr, allF_ge (by omega)]; cases t <;> simp
def C659 (Γ : Ctx) : Prop := ∀ (t : Str), Γ.pre 659 [.str t] ∧ Γ.val 659 [.str t] = .bool (numericB t)
/-- linchpin/version.fits -/
def version_fits : AFunc := { np := 1, ns := 2, res := [⟨1, none⟩], rsh := [[.a]], body := (.seq (.reg false [⟨.mv (.c (.bool false)), none⟩] [(1, 0)]) (.seq (.reg false [⟨.mv (.s 0), none⟩, ⟨.bin .geq (.l 0) (.c (.int .i64 0)), none⟩, ⟨.mv (.l 1), none⟩, ⟨.mv (.s 0), some (2, true)⟩, ⟨.bin .leq (.l 3) (.c (.int .i64 9999)), some (2, true)⟩, ⟨.pick (.l 2) (.l 4) (.c (.bool false)), none⟩, ⟨.mv (.l 5), none⟩] [(1, 6)]) .ret)) }
theorem w440 {Γ : Ctx} (hm : (Γ.at 0).Mono)  (n : Int)  : wpA (Γ.at 0) version_fits.body (Res version_fits (.bool (fitB n)) : Ex → List Ent → St → Prop) (env0 version_fits [.int .i64 n]) ⟨0, []⟩ := by
  show wpA _ _ _ [⟨true, .int .i64 n⟩, .un] ⟨0, []⟩
  refine wp_regseq ?_; refine r_mv ?_; refine reg_end (env' := [_, ⟨_, (.bool _)⟩]) ?_; refine wp_regseq ?_; refine r_mv ?_; refine r_geqI ?_; refine r_mv ?_; refine r_mv ?_; refine r_leqI ?_; refine r_and ?_; refine r_mv ?_; refine reg_end (env' := [_, ⟨_, (.bool _)⟩]) ?_; refine wp_ret ?_
  refine res_of trivial q2 q3 (Eq.trans q7 (congrArg D.bool ?_))
  rfl
def C440 (Γ : Ctx) : Prop := ∀ (n : Int), Γ.pre 440 [.int .i64 n] ∧ Γ.val 440 [.int .i64 n] = .bool (fitB n)
/-- linchpin/version.behind -/
def version_behind : AFunc := { np := 2, ns := 9, res := [⟨2, none⟩, ⟨3, none⟩], rsh := [[.a], [.a]], body := (.seq (.reg false [⟨.mv (.c (.str [])), none⟩, ⟨.mv (.c (.str [])), none⟩] [(2, 0), (3, 1)]) (.seq (.seq (.reg false [⟨.mv (.s 0), none⟩, ⟨.lenS (.l 0), none⟩, ⟨.mv (.c (.int .i64 0)), none⟩] [(5, 1), (4, 2)]) (.block 0 (.loop (.seq (.reg false [⟨.bin .lss (.s 4) (.s 5), none⟩] [(6, 0)]) (.seq (.cond (.s 6) .skip (.exit 0)) (.seq (.block 1 (.seq (.reg false [⟨.mv (.s 4), none⟩, ⟨.mv (.l 0), none⟩] [(7, 1)]) (.seq (.reg false [⟨.mv (.s 0), none⟩, ⟨.mv (.s 7), none⟩, ⟨.ixS (.l 0) (.l 1), none⟩, ⟨.mv (.s 1), none⟩, ⟨.bin .eql (.l 2) (.l 3), none⟩] [(8, 4)]) (.cond (.s 8) (.seq (.reg true [⟨.mv (.s 0), none⟩, ⟨.mv (.s 7), none⟩, ⟨.bin .add (.l 1) (.c (.int .i64 1)), none⟩, ⟨.slS (.l 0) (some (.l 2)) none, none⟩, ⟨.mv (.s 0), none⟩, ⟨.mv (.s 7), none⟩, ⟨.slS (.l 4) none (some (.l 5)), none⟩, ⟨.mv (.l 3), none⟩, ⟨.mv (.l 6), none⟩] [(2, 7), (3, 8)]) .ret) .skip)))) (.reg false [⟨.bin .add (.s 4) (.c (.int .i64 1)), none⟩, ⟨.mv (.l 0), none⟩] [(4, 1)]))))))) (.seq (.reg false [⟨.mv (.s 0), none⟩, ⟨.mv (.c (.str [])), none⟩, ⟨.mv (.l 0), none⟩] [(2, 1), (3, 2)]) .ret))) }
theorem w675 {Γ : Ctx} (hm : (Γ.at 0).Mono)  (s : Str) (b : Int)  : wpA (Γ.at 0) version_behind.body (Res version_behind (.tup [.str (behindL s b).1, .str (behindL s b).2]) : Ex → List Ent → St → Prop) (env0 version_behind [.str s, .int .u8 b]) ⟨0, []⟩ := by
  show wpA _ _ _ [⟨true, .str s⟩, ⟨true, .int .u8 b⟩, .un, .un, .un, .un, .un, .un, .un] ⟨0, []⟩
  refine wp_regseq ?_; refine r_mv ?_; refine r_mv ?_; refine reg_end (env' := [_, _, ⟨_, (.str _)⟩, ⟨_, (.str _)⟩, _, _, _, _, _]) ?_; refine wp_assoc ?_; refine wp_regseq ?_; refine r_mv ?_
  refine r_lenS fun hlR1_1 => ?_; replace hlR1_1 := hlR1_1 rfl rfl
  refine r_mv ?_; refine reg_end (env' := [_, _, _, _, ⟨_, (.int _ _)⟩, ⟨_, (.int _ _)⟩, _, _, _]) ?_
  refine wp_for hm (ι := Nat) (fun i => [⟨true, .str s⟩, ⟨true, .int .u8 b⟩, .un, .un, ⟨true, .int .i64 (i : Nat)⟩, ⟨true, .int .i64 (s.length : Nat)⟩, .un, .un, .un]) (fun i => []) 5 (fun i => i ≤ s.length ∧ behindL s b = behindX s b i) (fun i => s.length - i) 0 ⟨by omega, rfl⟩ (Ghost.to [] q7 q7 q4 q1) ?_
  rintro i ⟨hi, hr⟩
  refine wp_regseq ?_; refine r_lssI ?_; refine reg_end (env' := [_, _, _, _, _, _, ⟨_, (.bool _)⟩, _, _]) ?_
  refine wp_condseq (fun hc0 => ?_) (fun hc0 => ?_)
  · try simp only [b0, b1, b2, b3, b4, b5, b6, b7, b8, b9, b10, b11] at hc0
    refine wp_skipseq ?_
    refine wp_blockseq ?_ hm
    refine wp_regseq ?_; refine r_mv ?_; refine r_mv ?_; refine reg_end (env' := [_, _, _, _, _, _, _, ⟨_, (.int _ _)⟩, _]) ?_; refine wp_regseq ?_; refine r_mv ?_; refine r_mv ?_
    first | refine r_ixS _ ?_ | refine r_ixST ?_
    refine r_mv ?_; refine r_eqlI ?_; refine reg_end (env' := [_, _, _, _, _, _, _, _, ⟨_, (.bool _)⟩]) ?_
    refine wp_cond (fun hc1 => ?_) (fun hc1 => ?_)
    · try simp only [b0, b1, b2, b3, b4, b5, b6, b7, b8, b9, b10, b11] at hc1
      refine wp_regseq ?_; refine r_mv ?_; refine r_mv ?_; refine r_add64 ?_; refine r_slS_lo (i + 1) ?_; refine r_mv ?_; refine r_mv ?_; refine r_slS_hi _ ?_; refine r_mv ?_; refine r_mv ?_; refine reg_end (env' := [_, _, ⟨_, (.str _)⟩, ⟨_, (.str _)⟩, _, _, _, _, _]) ?_; refine wp_ret ?_; refine BQ.ret ?_; refine LQ.ret ?_
      refine res_of trivial q2 q3 (Eq.trans q7 (tup_eq2 (congrArg D.str ?_) (congrArg D.str ?_)))
      all_goals rw [hr, behindX_eq (by omega) hc1]
    · try simp only [b0, b1, b2, b3, b4, b5, b6, b7, b8, b9, b10, b11] at hc1
      refine wp_skip ?_; refine BQ.normal ?_; refine wp_reg ?_; refine r_add64 ?_; refine r_mv ?_; refine reg_fin (env' := [_, _, _, _, ⟨_, (.int _ _)⟩, _, _, _, _]) ?_; refine LQ.normal ?_
      exact ⟨i + 1, ⟨by omega, by rw [hr, behindX_ne (by omega) hc1]⟩, by omega, (Ghost.to [] q7 q7 q4 q1)⟩
  · try simp only [b0, b1, b2, b3, b4, b5, b6, b7, b8, b9, b10, b11] at hc0
    refine wp_exitseq ?_; refine LQ.out ?_; refine wp_regseq ?_; refine r_mv ?_; refine r_mv ?_; refine r_mv ?_; refine reg_end (env' := [_, _, ⟨_, (.str _)⟩, ⟨_, (.str _)⟩, _, _, _, _, _]) ?_; refine wp_ret ?_
    refine res_of trivial q2 q3 (Eq.trans q7 (tup_eq2 (congrArg D.str ?_) (congrArg D.str ?_)))
    all_goals rw [hr, behindX_end (by omega)]
def C675 (Γ : Ctx) : Prop := ∀ (s : Str) (b : Int), Γ.pre 675 [.str s, .int .u8 b] ∧ Γ.val 675 [.str s, .int .u8 b] = .tup [.str (behindL s b).1, .str (behindL s b).2]
/-- linchpin/version.tags -/
def version_tags : AFunc := { np := 1, ns := 15, res := [⟨1, none⟩], rsh := [[.a]], body := (.seq (.reg false [⟨.mv (.c (.bool false)), none⟩] [(1, 0)]) (.seq (.reg false [⟨.mv (.s 0), none⟩, ⟨.call 533 [(.l 0), (.c (.int .u8 46))] [[.a], [.a]], none⟩, ⟨.mv (.l 1), none⟩] [(2, 2)]) (.seq (.reg false [⟨.mv (.s 2), none⟩, ⟨.len (.l 0), none⟩, ⟨.bin .leq (.l 1) (.c (.int .i64 4)), none⟩, ⟨.mv (.l 2), none⟩] [(14, 3)]) (.seq .skip (.seq (.seq (.reg false [⟨.mv (.s 2), none⟩, ⟨.len (.l 0), none⟩, ⟨.mv (.c (.int .i64 0)), none⟩] [(6, 0), (4, 1), (3, 2)]) (.block 0 (.loop (.seq (.reg false [⟨.bin .lss (.s 3) (.s 4), none⟩] [(5, 0)]) (.seq (.cond (.s 5) .skip (.exit 0)) (.seq (.block 1 (.seq (.reg false [⟨.ia 1 (.s 6) (.s 3), none⟩, ⟨.ld 1 false (.l 0), none⟩, ⟨.mv (.l 1), none⟩] [(7, 2)]) (.seq (.seq (.reg false [⟨.mv (.s 7), none⟩, ⟨.bin .eql (.l 0) (.c (.str [])), none⟩, ⟨.mv (.l 1), none⟩, ⟨.mv (.s 7), some (2, false)⟩, ⟨.lenS (.l 3), some (2, false)⟩, ⟨.bin .gtr (.l 4) (.c (.int .i64 8)), some (2, false)⟩, ⟨.pick (.l 2) (.c (.bool true)) (.l 5), none⟩] [(8, 6)]) (.cond (.s 8) (.seq (.reg false [⟨.mv (.c (.bool false)), none⟩] [(14, 0)]) (.exit 0)) .skip)) (.seq (.reg false [⟨.mv (.s 7), none⟩, ⟨.rng (.l 0), none⟩] [(9, 1)]) (.block 2 (.loop (.seq (.reg false [⟨.nxt (.s 9), none⟩, ⟨.ext (.l 0) 0, none⟩] [(11, 0), (10, 1)]) (.seq (.cond (.s 10) .skip (.exit 2)) (.block 3 (.seq (.reg false [⟨.ext (.s 11) 2, none⟩, ⟨.mv (.l 0), none⟩] [(12, 1)]) (.seq (.reg false [⟨.mv (.s 12), none⟩, ⟨.bin .lss (.l 0) (.c (.int .i32 97)), none⟩, ⟨.mv (.l 1), none⟩, ⟨.mv (.s 12), some (2, false)⟩, ⟨.bin .gtr (.l 3) (.c (.int .i32 122)), some (2, false)⟩, ⟨.pick (.l 2) (.c (.bool true)) (.l 4), none⟩, ⟨.mv (.l 5), none⟩, ⟨.mv (.s 12), some (6, true)⟩, ⟨.bin .lss (.l 7) (.c (.int .i32 48)), some (6, true)⟩, ⟨.mv (.l 8), some (6, true)⟩, ⟨.mv (.s 12), some (9, false)⟩, ⟨.bin .gtr (.l 10) (.c (.int .i32 57)), some (9, false)⟩, ⟨.pick (.l 9) (.c (.bool true)) (.l 11), some (6, true)⟩, ⟨.pick (.l 6) (.l 12) (.c (.bool false)), none⟩, ⟨.mv (.l 13), none⟩, ⟨.mv (.s 12), some (14, true)⟩, ⟨.bin .neq (.l 15) (.c (.int .i32 45)), some (14, true)⟩, ⟨.pick (.l 14) (.l 16) (.c (.bool false)), none⟩] [(13, 17)]) (.cond (.s 13) (.seq (.reg false [⟨.mv (.c (.bool false)), none⟩] [(14, 0)]) (.exit 0)) .skip)))))))))))) (.reg false [⟨.bin .add (.s 3) (.c (.int .i64 1)), none⟩, ⟨.mv (.l 0), none⟩] [(3, 1)]))))))) (.seq (.reg false [⟨.mv (.s 14), none⟩, ⟨.mv (.l 0), none⟩] [(1, 1)]) .ret)))))) }
theorem w442 {Γ : Ctx} (hm : (Γ.at 0).Mono) (h533 : C533 (Γ.at 0)) (s : Str) (hp0 : s.length ≤ 1048576) : wpA (Γ.at 0) version_tags.body (Res version_tags (.bool (tagsP s false)) : Ex → List Ent → St → Prop) (env0 version_tags [.str s]) ⟨0, []⟩ := by
  show wpA _ _ _ [⟨true, .str s⟩, .un, .un, .un, .un, .un, .un, .un, .un, .un, .un, .un, .un, .un, .un] ⟨0, []⟩
  refine wp_regseq ?_; refine r_mv ?_; refine reg_end (env' := [_, ⟨_, (.bool _)⟩, _, _, _, _, _, _, _, _, _, _, _, _, _]) ?_; refine wp_regseq ?_; refine r_mv ?_
  refine r_call (hc := h533 _ _ ?_) ?_; rotate_left; first | assumption | omega; have hlen := splitL_len s 46
  refine r_mv ?_; refine reg_end (env' := [_, _, ⟨_, (.sl _ _)⟩, _, _, _, _, _, _, _, _, _, _, _, _]) ?_; refine wp_regseq ?_; refine r_mv ?_
  refine r_lenM fun hlR2_1 => ?_; replace hlR2_1 := hlR2_1 rfl rfl
  refine r_leqI ?_; refine r_mv ?_; refine reg_end (env' := [_, _, _, _, _, _, _, _, _, _, _, _, _, _, ⟨_, (.bool _)⟩]) ?_; refine wp_skipseq ?_; refine wp_assoc ?_; refine wp_regseq ?_; refine r_mv ?_
  refine r_lenM fun hlR3_1 => ?_; replace hlR3_1 := hlR3_1 rfl rfl
  refine r_mv ?_; refine reg_end (env' := [_, _, _, ⟨_, (.int _ _)⟩, ⟨_, (.int _ _)⟩, _, ⟨_, (.sl _ _)⟩, _, _, _, _, _, _, _, _]) ?_
  refine wp_for hm (ι := Nat) (fun i => [.un, .un, ⟨true, .sl 1 ((splitL s 46).map D.str)⟩, ⟨true, .int .i64 (i : Nat)⟩, ⟨true, .int .i64 ((splitL s 46).length : Nat)⟩, .un, ⟨true, .sl 1 ((splitL s 46).map D.str)⟩, .un, .un, .un, .un, .un, .un, .un, ⟨true, .bool (decide (((splitL s 46).length : Int) ≤ 4))⟩]) (fun i => []) 11 (fun i => i ≤ (splitL s 46).length ∧ tagsP s false = (decide ((splitL s 46).length ≤ 4) && allF (fun i => tagOK false (splitL s 46)[i]!) i (splitL s 46).length)) (fun i => (splitL s 46).length - i) 0 ⟨by omega, rfl⟩ (Ghost.to [] q7 q7 q4 q1) ?_
  rintro i ⟨hi, hr⟩
  refine wp_regseq ?_; refine r_lssI ?_; refine reg_end (env' := [_, _, _, _, _, ⟨_, (.bool _)⟩, _, _, _, _, _, _, _, _, _]) ?_
  refine wp_condseq (fun hc0 => ?_) (fun hc0 => ?_)
  · try simp only [b0, b1, b2, b3, b4, b5, b6, b7, b8, b9, b10, b11] at hc0
    refine wp_skipseq ?_
    refine wp_blockseq ?_ hm
    refine wp_regseq ?_
    first | refine r_iaM _ ?_ | refine r_iaMT ?_
    first | refine r_ldR (v := (.str _)) ?_ | refine r_ldQ (v := (.str _)) ?_
    refine r_mv ?_; refine reg_end (env' := [_, _, _, _, _, _, _, ⟨_, (.str _)⟩, _, _, _, _, _, _, _]) ?_; refine wp_assoc ?_; refine wp_regseq ?_
    generalize ht : (splitL s 46)[i]! = t
    refine r_mv ?_; refine r_eqlS ?_; refine r_mv ?_; refine r_mv ?_
    refine r_lenS fun _ => ?_
    refine r_gtrI ?_; refine r_or ?_; refine reg_end (env' := [_, _, _, _, _, _, _, _, ⟨_, (.bool _)⟩, _, _, _, _, _, _]) ?_
    refine wp_condseq (fun hc1 => ?_) (fun hc1 => ?_)
    · try simp only [b0, b1, b2, b3, b4, b5, b6, b7, b8, b9, b10, b11] at hc1
      refine wp_assoc ?_; refine wp_regseq ?_; refine r_mv ?_; refine reg_end (env' := [_, _, _, _, _, _, _, _, _, _, _, _, _, _, ⟨_, (.bool _)⟩]) ?_; refine wp_exitseq ?_; refine BQ.other q7 ?_; refine LQ.out ?_; refine wp_regseq ?_; refine r_mv ?_; refine r_mv ?_; refine reg_end (env' := [_, ⟨_, (.bool _)⟩, _, _, _, _, _, _, _, _, _, _, _, _, _]) ?_; refine wp_ret ?_
      refine res_of trivial q2 q3 (Eq.trans q7 (congrArg D.bool ?_))
      first
        | (rw [hr, allF_ge (by omega), Bool.and_true]; exact decide_eq_decide.2 (by omega))
        | (have hb : tagB t = false := by
            first
            | (simp only [tagB]; rcases hc1 with h | h
               · subst h; simp
               · rw [decide_eq_false (by omega : ¬ t.length ≤ 8)]; simp)
            | (have hz : tch (at8 t j) = false := by
                 rcases hcw with ⟨_, h, _⟩ | ⟨_, h⟩ <;> (simp only [tch, lowB, digitB, Bool.or_eq_false_iff, Bool.and_eq_false_iff, decide_eq_false_iff_not]; omega)
               rw [hj, allF_lt hnx, hz]; rfl)
           rw [hr, allF_lt (by omega), show tagOK false (splitL s 46)[i]! = false from (by simp only [tagOK, ht, hb, Bool.false_and])]; simp)
    · try simp only [b0, b1, b2, b3, b4, b5, b6, b7, b8, b9, b10, b11] at hc1
      refine wp_skipseq ?_; refine wp_regseq ?_; refine r_mv ?_; refine r_rng ?_; refine reg_end (env' := [_, _, _, _, _, _, _, _, _, ⟨_, _⟩, _, _, _, _, _]) ?_
      have hT : tagB t = allF (fun i => tch (at8 t i)) 0 t.length := by
        have := List.length_pos_iff.2 hc1.1
        simp only [tagB]; rw [decide_eq_true (by omega), decide_eq_true (by omega)]; rfl
      refine wp_forL hm (ι := Nat) (fun j => [.un, .un, ⟨true, .sl 1 ((splitL s 46).map D.str)⟩, ⟨true, .int .i64 (i : Nat)⟩, ⟨true, .int .i64 ((splitL s 46).length : Nat)⟩, .un, ⟨true, .sl 1 ((splitL s 46).map D.str)⟩, .un, .un, ⟨true, .it 23⟩, .un, .un, .un, .un, ⟨true, .bool (decide (((splitL s 46).length : Int) ≤ 4))⟩]) (fun j => [(23, .iter t j)]) 24 (fun j => j ≤ t.length ∧ tagB t = allF (fun i => tch (at8 t i)) j t.length) (fun j => t.length - j) 0 ⟨by omega, hT⟩ (Ghost.to [(23, 23)] q7 q7 q4 q1) ?_
      rintro j ⟨hj0, hj⟩
      refine wp_regseq ?_
      by_cases hnx : j < t.length
      · obtain ⟨c, w, hdec, hw, hcw⟩ := dec_spec t j hnx
        refine r_nxt1 c w (hp := hnx) (hc := hdec) ?_; refine r_ext (.bool _) ?_; refine reg_end (env' := [_, _, _, _, _, _, _, _, _, _, ⟨_, (.bool _)⟩, ⟨_, _⟩, _, _, _]) ?_
        refine wp_condseq (t := true) (fun _ => ?_) (fun h => by cases h)
        refine wp_skipseq ?_
        refine wp_blockL ?_ hm
        refine wp_regseq ?_; refine r_ext (.int _ _) ?_; refine r_mv ?_; refine reg_end (env' := [_, _, _, _, _, _, _, _, _, _, _, _, ⟨_, (.int _ _)⟩, _, _]) ?_; refine wp_regseq ?_; refine r_mv ?_; refine r_lssI ?_; refine r_mv ?_; refine r_mv ?_; refine r_gtrI ?_; refine r_or ?_; refine r_mv ?_; refine r_mv ?_; refine r_lssI ?_; refine r_mv ?_; refine r_mv ?_; refine r_gtrI ?_; refine r_or ?_; refine r_and ?_; refine r_mv ?_; refine r_mv ?_; refine r_neqI ?_; refine r_and ?_; refine reg_end (env' := [_, _, _, _, _, _, _, _, _, _, _, _, _, ⟨_, (.bool _)⟩, _]) ?_
        refine wp_cond (fun hc3 => ?_) (fun hc3 => ?_)
        · try simp only [b0, b1, b2, b3, b4, b5, b6, b7, b8, b9, b10, b11] at hc3
          refine wp_regseq ?_; refine r_mv ?_; refine reg_end (env' := [_, _, _, _, _, _, _, _, _, _, _, _, _, _, ⟨_, (.bool _)⟩]) ?_; refine wp_exit ?_
          refine BQ0.other q7 ?_
          refine LQ0.other q7 ?_
          refine BQ.other q7 ?_; refine LQ.out ?_; refine wp_regseq ?_; refine r_mv ?_; refine r_mv ?_; refine reg_end (env' := [_, ⟨_, (.bool _)⟩, _, _, _, _, _, _, _, _, _, _, _, _, _]) ?_; refine wp_ret ?_
          refine res_of trivial q2 q3 (Eq.trans q7 (congrArg D.bool ?_))
          first
            | (rw [hr, allF_ge (by omega), Bool.and_true]; exact decide_eq_decide.2 (by omega))
            | (have hb : tagB t = false := by
                first
                | (simp only [tagB]; rcases hc1 with h | h
                   · subst h; simp
                   · rw [decide_eq_false (by omega : ¬ t.length ≤ 8)]; simp)
                | (have hz : tch (at8 t j) = false := by
                     rcases hcw with ⟨_, h, _⟩ | ⟨_, h⟩ <;> (simp only [tch, lowB, digitB, Bool.or_eq_false_iff, Bool.and_eq_false_iff, decide_eq_false_iff_not]; omega)
                   rw [hj, allF_lt hnx, hz]; rfl)
               rw [hr, allF_lt (by omega), show tagOK false (splitL s 46)[i]! = false from (by simp only [tagOK, ht, hb, Bool.false_and])]; simp)
        · try simp only [b0, b1, b2, b3, b4, b5, b6, b7, b8, b9, b10, b11] at hc3
          refine wp_skip ?_
          refine BQ0.normal ?_
          refine LQ0.normal ?_
          obtain ⟨rfl, hat, -⟩ : w = 1 ∧ (c : Int) = at8 t j ∧ c < 128 := by
            rcases hcw with h | h
            · exact h
            · omega
          have hz : tch (at8 t j) = true := by
            simp only [tch, lowB, digitB, Bool.or_eq_true, Bool.and_eq_true, decide_eq_true_eq]; omega
          exact ⟨j + 1, ⟨by omega, by rw [hj, allF_lt hnx, hz]; rfl⟩, by omega, (Ghost.to [(23, 23)] q7 q7 q4 q1)⟩
      · refine r_nxt0 (hp := hnx) ?_; refine r_ext (.bool _) ?_; refine reg_end (env' := [_, _, _, _, _, _, _, _, _, _, ⟨_, (.bool _)⟩, ⟨_, _⟩, _, _, _]) ?_
        refine wp_condseq (t := false) (fun h => by cases h) (fun _ => ?_)
        refine wp_exitseq ?_
        refine LQ0.out ?_
        refine BQ.normal ?_; refine wp_reg ?_; refine r_add64 ?_; refine r_mv ?_; refine reg_fin (env' := [_, _, _, ⟨_, (.int _ _)⟩, _, _, _, _, _, _, _, _, _, _, _]) ?_; refine LQ.normal ?_
        exact ⟨i + 1, ⟨by omega, by rw [hr, allF_lt (by omega)]; rw [show tagOK false (splitL s 46)[i]! = true from (by simp only [tagOK, Bool.false_and, Bool.not_false, Bool.and_true]; rw [ht, hj, allF_ge (by omega)])]; rfl⟩, by omega, (Ghost.to [] q7 q7 q4 q1)⟩
  · try simp only [b0, b1, b2, b3, b4, b5, b6, b7, b8, b9, b10, b11] at hc0
    refine wp_exitseq ?_; refine LQ.out ?_; refine wp_regseq ?_; refine r_mv ?_; refine r_mv ?_; refine reg_end (env' := [_, ⟨_, (.bool _)⟩, _, _, _, _, _, _, _, _, _, _, _, _, _]) ?_; refine wp_ret ?_
    refine res_of trivial q2 q3 (Eq.trans q7 (congrArg D.bool ?_))
    first
      | (rw [hr, allF_ge (by omega), Bool.and_true]; exact decide_eq_decide.2 (by omega))
      | (have hb : tagB t = false := by
          first
          | (simp only [tagB]; rcases hc1 with h | h
             · subst h; simp
             · rw [decide_eq_false (by omega : ¬ t.length ≤ 8)]; simp)
          | (have hz : tch (at8 t j) = false := by
               rcases hcw with ⟨_, h, _⟩ | ⟨_, h⟩ <;> (simp only [tch, lowB, digitB, Bool.or_eq_false_iff, Bool.and_eq_false_iff, decide_eq_false_iff_not]; omega)
             rw [hj, allF_lt hnx, hz]; rfl)
         rw [hr, allF_lt (by omega), show tagOK false (splitL s 46)[i]! = false from (by simp only [tagOK, ht, hb, Bool.false_and])]; simp)
def C442 (Γ : Ctx) : Prop := ∀ (s : Str), (s.length ≤ 1048576) → Γ.pre 442 [.str s] ∧ Γ.val 442 [.str s] = .bool (tagsP s false)
end Go.Abs
end
