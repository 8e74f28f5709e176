/- A part of the proofs of the statements: AbsW, AbsX, LData, LBase, LSpec1, LSpec2, LSpec3, AbsY, LSpec4, LSpec5, LAsm, AbsZ. -/
import Derived.IntWalk
import Derived.KernelRfl
import Derived.Lib.TrimUEq
import Derived.Test.YtpdlhpamcaocgaaGreatDoorP04
set_option linter.all false
section
namespace Go.Abs
section
variable {Γ : Ctx} {Q Q' : Ex → List aN → St → Prop} {env : List aN} {st : St}
def Ctx.bN (Γ : Ctx) : Prop := ∀ f ds st (K K' : D → St → Prop), (∀ d st, K d st → K' d st) → Γ.tr f ds st K → Γ.tr f ds st K'
theorem gN {draw : Bool} {K K' : List aN → St → Prop} (h : ∀ vs st, K vs st → K' vs st) (htr : Γ.bN) : ∀ (l : List GI) (env vs : List aN) (st : St), eX Γ draw l env vs st K → eX Γ draw l env vs st K'
 | [], env, vs, st, hh => h _ _ hh
 | ⟨i, g⟩ :: r, env, vs, st, hh => by
  cases hcm : i.cu with
  | true =>
   cases i <;> simp only [aA.cu] at hcm <;> try (cases hcm; done)
   ·exact ⟨hh.1, fun hf => ⟨(hh.2.1 hf).1, htr _ _ _ _ _ (fun d st' ⟨h1, h2⟩ => ⟨h1, gN h htr r _ _ _ h2⟩) (hh.2.1 hf).2⟩, fun hf => gN h htr r _ _ _ (hh.2.2 hf)⟩
   ·rename_i fv args
    simp only [eX] at hh ⊢
    refine ⟨hh.1, hh.2.1, hh.2.2.1, ?_⟩
    have h3 := hh.2.2.2
    cases hd : (Src.ev env vs fv).d <;> simp only [hd] at h3 ⊢
    exact htr _ _ _ _ _ (fun d st' ⟨h1, h2⟩ => ⟨h1, gN h htr r _ _ _ h2⟩) h3
  | false =>
   cases hf : i.qh draw g with
   | true =>
    rw [tX hcm hf] at hh ⊢
    exact ⟨hh.1, fun e => ⟨(hh.2.1 e).1, gN h htr r _ _ _ (hh.2.1 e).2⟩, fun e => gN h htr r _ _ _ (hh.2.2 e)⟩
   | false =>
    rw [iV hcm hf] at hh ⊢
    exact ⟨hh.1, hh.2.1, fun ha => (hh.2.2 ha).imp fun _ h2 => ⟨h2.1, gN h htr r _ _ _ h2.2⟩⟩
theorem Gh.mono {lo : Nat} {p q : List aN → St → Prop} (h : ∀ env st, p env st → q env st) : Gh lo p env st → Gh lo q env st
 | ⟨e, s, h1, h2⟩ => ⟨e, s, h1, h _ _ h2⟩
theorem Gh.intro {lo : Nat} {p : List aN → St → Prop} (h : p env st) : Gh lo p env st := ⟨env, st, .refl _ _, h⟩
theorem dL (htr : Γ.bN) : ∀ (a : AC) (Q Q' : Ex → List aN → St → Prop) (env : List aN) (st : St), (∀ e env st, Q e env st → Q' e env st) → bo Γ a Q env st → bo Γ a Q' env st
 | .reg draw ins cm, Q, Q', env, st, h, hh => Gh.mono (fun env st h2 => gN (fun vs st => h _ _ _) htr _ _ _ _ h2) hh
 | .seq a b, Q, Q', env, st, h, hh => Gh.mono (fun env st h2 => dL htr a _ _ env st (fun e env st h2 => by
   cases e with
   | normal => exact dL htr b Q Q' env st h h2
   | exit id => exact h _ _ _ h2
   | ret => exact h _ _ _ h2) h2) hh
 | .cond c a b, Q, Q', env, st, h, hh => Gh.mono (fun env st h2 => by
  refine ⟨h2.1, ?_⟩
  have := h2.2
  cases hd : (c.ev env []).d <;> simp only [hd] at this ⊢
  exact ⟨fun ht => dL htr a Q Q' env st h (this.1 ht), fun ht => dL htr b Q Q' env st h (this.2 ht)⟩) hh
 | .block id a, Q, Q', env, st, h, hh => Gh.mono (fun env st h2 => dL htr a _ _ env st (fun e env st h2 => by
   cases e with
   | normal => exact h _ _ _ h2
   | exit j => simp only at h2 ⊢; split <;> rename_i hj <;> simp only [hj, if_true, if_false] at h2 <;> exact h _ _ _ h2
   | ret => exact h _ _ _ h2) h2) hh
 | .loop a, Q, Q', env, st, h, hh => Gh.mono (fun env st h2 => by
  obtain ⟨I, μ, h1, h2⟩ := h2
  refine ⟨I, μ, h1, fun env st hi => dL htr a _ _ env st (fun e env' st' h3 => ?_) (h2 env st hi)⟩
  cases e with
  | normal => exact h3
  | exit id => exact h _ _ _ h3
  | ret => exact h _ _ _ h3) hh
 | .exit id, Q, Q', env, st, h, hh => Gh.mono (fun _ _ => h _ _ _) hh
 | .ret, Q, Q', env, st, h, hh => Gh.mono (fun _ _ => h _ _ _) hh
 | .skip, Q, Q', env, st, h, hh => Gh.mono (fun _ _ => h _ _ _) hh
theorem fJ {a : AC} {env' : List aN} {st' : St} (g : az Γ.lo env st env' st') (h : bo Γ a Q env' st') : bo Γ a Q env st := by
 cases a <;> (obtain ⟨e2, s2, g2, h2⟩ := h; exact ⟨e2, s2, .trans _ _ _ _ _ _ g g2, h2⟩)
def BQ (Γ : Ctx) (id : Nat) (r : AC) (Q : Ex → List aN → St → Prop) : Ex → List aN → St → Prop := fun e env st => match e with
 | .normal => bo Γ r Q env st
 | .exit j => if j = id then bo Γ r Q env st else Q (.exit j) env st
 | .ret => Q .ret env st
def LQ (Γ : Ctx) (id : Nat) (r : AC) (next : List aN → St → Prop) (Q : Ex → List aN → St → Prop) : Ex → List aN → St → Prop := fun e env st => match e with
 | .normal => next env st
 | .exit j => if j = id then bo Γ r Q env st else Q (.exit j) env st
 | .ret => Q .ret env st
theorem BQ.normal {id : Nat} {r : AC} (h : bo Γ r Q env st) : BQ Γ id r Q .normal env st := h
theorem BQ.out {id : Nat} {r : AC} (h : bo Γ r Q env st) : BQ Γ id r Q (.exit id) env st := by simp only [BQ, if_true]; exact h
theorem BQ.other {id j : Nat} {r : AC} (hj : (j == id) = false) (h : Q (.exit j) env st) : BQ Γ id r Q (.exit j) env st := by simp only [BQ, if_neg (by simpa using hj)]; exact h
theorem BQ.ret {id : Nat} {r : AC} (h : Q .ret env st) : BQ Γ id r Q .ret env st := h
theorem LQ.normal {id : Nat} {r : AC} {next : List aN → St → Prop} (h : next env st) : LQ Γ id r next Q .normal env st := h
theorem LQ.out {id : Nat} {r : AC} {next : List aN → St → Prop} (h : bo Γ r Q env st) : LQ Γ id r next Q (.exit id) env st := by simp only [LQ, if_true]; exact h
theorem LQ.other {id j : Nat} {r : AC} {next : List aN → St → Prop} (hj : (j == id) = false) (h : Q (.exit j) env st) : LQ Γ id r next Q (.exit j) env st := by simp only [LQ, if_neg (by simpa using hj)]; exact h
theorem LQ.ret {id : Nat} {r : AC} {next : List aN → St → Prop} (h : Q .ret env st) : LQ Γ id r next Q .ret env st := h
theorem Cf {a b c : AC} (h : bo Γ (.seq a (.seq b c)) Q env st) : bo Γ (.seq (.seq a b) c) Q env st := by
 obtain ⟨e1, s1, g1, h1⟩ := h
 refine ⟨e1, s1, g1, e1, s1, .refl _ _, ?_⟩
 have : ∀ (Q1 Q2 : Ex → List aN → St → Prop), Q1 = Q2 → bo Γ a Q1 e1 s1 → bo Γ a Q2 e1 s1 := fun _ _ e h => e ▸ h
 refine this _ _ ?_ h1
 funext e env st
 cases e with
 | normal => exact propext ⟨fun ⟨e2, s2, g2, h2⟩ => fJ g2 h2, fun h => ⟨_, _, .refl _ _, h⟩⟩
 | exit id => rfl
 | ret => rfl
theorem yn {b : AC} (h : bo Γ b Q env st) : bo Γ (.seq .skip b) Q env st := .intro (.intro h)
theorem wp_skip (h : Q .normal env st) : bo Γ .skip Q env st := .intro h
theorem Ap {b : AC} (h : Q .ret env st) : bo Γ (.seq .ret b) Q env st := .intro (.intro h)
theorem wp_ret (h : Q .ret env st) : bo Γ .ret Q env st := .intro h
theorem ym {id : Nat} {b : AC} (h : Q (.exit id) env st) : bo Γ (.seq (.exit id) b) Q env st := .intro (.intro h)
theorem wp_exit {id : Nat} (h : Q (.exit id) env st) : bo Γ (.exit id) Q env st := .intro h
theorem ax {id : Nat} {a r : AC} (h : bo Γ a (BQ Γ id r Q) env st) (htr : Γ.bN) : bo Γ (.seq (.block id a) r) Q env st := by
 refine .intro (.intro (dL htr a _ _ _ _ (fun e env st h => ?_) h))
 cases e with
 | normal => exact h
 | exit j => simp only [BQ] at h ⊢; split <;> rename_i hj <;> simp only [hj, if_true, if_false] at h <;> exact h
 | ret => exact h
theorem wp_block {id : Nat} {a : AC} (h : bo Γ a (BQ Γ id .skip Q) env st) (htr : Γ.bN) (hQ : ∀ e env env' st st', az Γ.lo env st env' st' → Q e env' st' → Q e env st) : bo Γ (.block id a) Q env st := by
 refine .intro (dL htr a _ _ _ _ (fun e env st h => ?_) h)
 have hs : ∀ env st, bo Γ .skip Q env st → Q .normal env st := fun env st ⟨e2, s2, g2, h2⟩ => hQ _ _ _ _ _ g2 h2
 cases e with
 | normal => exact hs _ _ h
 | exit j => simp only [BQ] at h ⊢; split <;> rename_i hj <;> simp only [hj, if_true, if_false] at h <;> first | exact hs _ _ h | exact h
 | ret => exact h
def CQ (next : List aN → St → Prop) (Q : Ex → List aN → St → Prop) : Ex → List aN → St → Prop := fun e env st => match e with
 | .normal => next env st
 | .exit j => Q (.exit j) env st
 | .ret => Q .ret env st
theorem CQ.normal {next : List aN → St → Prop} (h : next env st) : CQ next Q .normal env st := h
theorem CQ.other {next : List aN → St → Prop} {j : Nat} (h : Q (.exit j) env st) : CQ next Q (.exit j) env st := h
theorem CQ.ret {next : List aN → St → Prop} (h : Q .ret env st) : CQ next Q .ret env st := h
def fK (id : Nat) (Q : Ex → List aN → St → Prop) : Ex → List aN → St → Prop := fun e env st => match e with
 | .normal => Q .normal env st
 | .exit j => if j = id then Q .normal env st else Q (.exit j) env st
 | .ret => Q .ret env st
theorem fK.normal {id : Nat} (h : Q .normal env st) : fK id Q .normal env st := h
theorem fK.out {id : Nat} (h : Q .normal env st) : fK id Q (.exit id) env st := by simp only [fK, if_true]; exact h
theorem fK.other {id j : Nat} (hj : (j == id) = false) (h : Q (.exit j) env st) : fK id Q (.exit j) env st := by simp only [fK, if_neg (by simpa using hj)]; exact h
theorem fK.ret {id : Nat} (h : Q .ret env st) : fK id Q .ret env st := h
theorem cW {id : Nat} {a : AC} (h : bo Γ a (fK id Q) env st) (htr : Γ.bN) : bo Γ (.block id a) Q env st := by
 refine .intro (dL htr a _ _ _ _ (fun e env st h => ?_) h)
 cases e with
 | normal => exact h
 | exit j => simp only [fK] at h ⊢; split <;> rename_i hj <;> simp only [hj, if_true, if_false] at h <;> exact h
 | ret => exact h
theorem yl (htr : Γ.bN) {a b : AC} {ι : Type} (F : ι → List aN) (G : ι → List (Nat × bm)) (c : Nat) (P : ι → Prop)
  (h1 : bo Γ a (CQ (fun env' st' => ∃ j, P j ∧ az Γ.lo env' st' (F j) ⟨c, G j⟩) Q) env st)
  (h2 : ∀ i, P i → bo Γ b Q (F i) ⟨c, G i⟩) : bo Γ (.seq a b) Q env st := by
 refine .intro (dL htr a _ _ _ _ (fun e env st h => ?_) h1)
 cases e with
 | normal => obtain ⟨j, hj, g⟩ := h; exact fJ g (h2 j hj)
 | exit j => exact h
 | ret => exact h
theorem bz (htr : Γ.bN) {a r : AC} {id : Nat} {ι : Type} (F : ι → List aN) (G : ι → List (Nat × bm)) (c : Nat) (P : ι → Prop) (μ : ι → Nat) (i0 : ι)
  (hP : P i0) (h0 : az Γ.lo env st (F i0) ⟨c, G i0⟩)
  (hr : ∀ i, P i → bo Γ a (LQ Γ id r (fun env' st' => ∃ j, P j ∧ μ j < μ i ∧ az Γ.lo env' st' (F j) ⟨c, G j⟩) Q) (F i) ⟨c, G i⟩) : bo Γ (.seq (.block id (.loop a)) r) Q env st := by
 let W : List aN → St → Nat → Prop := fun env st k => ∃ i, env = F i ∧ st = ⟨c, G i⟩ ∧ P i ∧ μ i = k
 have least : ∀ env st, (∃ k, W env st k) → ∃ k, W env st k ∧ ∀ k', W env st k' → k ≤ k' := by
  intro env st ⟨k, hk⟩
  induction k using Nat.strongRecOn with
  | _ k ih =>
   by_cases h : ∃ k', k' < k ∧ W env st k'
   ·obtain ⟨k', h1, h2⟩ := h; exact ih k' h1 h2
   ·exact ⟨k, hk, fun k' hk' => by
     rcases Nat.lt_or_ge k' k with h1 | h1
     ·exact absurd ⟨k', h1, hk'⟩ h
     ·exact h1⟩
 open Classical in
 refine .intro (.intro ⟨_, _, h0, fun env st => ∃ k, W env st k, fun env st => if h : ∃ k, W env st k then Classical.choose (least env st h) else 0, ⟨_, i0, rfl, rfl, hP, rfl⟩, fun env st hk => ?_⟩)
 obtain ⟨⟨i, e1, e2, e3, e5⟩, hmin⟩ := Classical.choose_spec (least env st hk)
 have := hr i e3
 rw [← e1, ← e2] at this
 refine dL htr a _ _ env st ?_ this
 ·intro e env' st' h
  cases e with
  | normal =>
   obtain ⟨j, b3, b5, g⟩ := h
   have hW : W (F j) ⟨c, G j⟩ (μ j) := ⟨j, rfl, rfl, b3, rfl⟩
   refine ⟨F j, ⟨c, G j⟩, g, ⟨_, hW⟩, ?_⟩
   show (if h : ∃ k, W (F j) ⟨c, G j⟩ k then Classical.choose (least _ _ h) else 0) < (if h : ∃ k, W env st k then Classical.choose (least env st h) else 0)
   rw [dif_pos ⟨_, hW⟩, dif_pos hk, ← e5]
   exact Nat.lt_of_le_of_lt ((Classical.choose_spec (least _ _ ⟨_, hW⟩)).2 _ hW) b5
  | exit j => simp only [LQ] at h ⊢; split <;> rename_i hj <;> simp only [hj, if_true, if_false] at h <;> exact h
  | ret => exact h
def oe (id : Nat) (next : List aN → St → Prop) (Q : Ex → List aN → St → Prop) : Ex → List aN → St → Prop := fun e env st => match e with
 | .normal => next env st
 | .exit j => if j = id then Q .normal env st else Q (.exit j) env st
 | .ret => Q .ret env st
theorem oe.normal {id : Nat} {next : List aN → St → Prop} (h : next env st) : oe id next Q .normal env st := h
theorem oe.out {id : Nat} {next : List aN → St → Prop} (h : Q .normal env st) : oe id next Q (.exit id) env st := by simp only [oe, if_true]; exact h
theorem oe.other {id j : Nat} {next : List aN → St → Prop} (hj : (j == id) = false) (h : Q (.exit j) env st) : oe id next Q (.exit j) env st := by simp only [oe, if_neg (by simpa using hj)]; exact h
theorem oe.ret {id : Nat} {next : List aN → St → Prop} (h : Q .ret env st) : oe id next Q .ret env st := h
theorem na (htr : Γ.bN) {a : AC} {id : Nat} {ι : Type} (F : ι → List aN) (G : ι → List (Nat × bm)) (c : Nat) (P : ι → Prop) (μ : ι → Nat) (i0 : ι)
  (hP : P i0) (h0 : az Γ.lo env st (F i0) ⟨c, G i0⟩)
  (hr : ∀ i, P i → bo Γ a (oe id (fun env' st' => ∃ j, P j ∧ μ j < μ i ∧ az Γ.lo env' st' (F j) ⟨c, G j⟩) Q) (F i) ⟨c, G i⟩) : bo Γ (.block id (.loop a)) Q env st := by
 let W : List aN → St → Nat → Prop := fun env st k => ∃ i, env = F i ∧ st = ⟨c, G i⟩ ∧ P i ∧ μ i = k
 have least : ∀ env st, (∃ k, W env st k) → ∃ k, W env st k ∧ ∀ k', W env st k' → k ≤ k' := by
  intro env st ⟨k, hk⟩
  induction k using Nat.strongRecOn with
  | _ k ih =>
   by_cases h : ∃ k', k' < k ∧ W env st k'
   ·obtain ⟨k', h1, h2⟩ := h; exact ih k' h1 h2
   ·exact ⟨k, hk, fun k' hk' => by
     rcases Nat.lt_or_ge k' k with h1 | h1
     ·exact absurd ⟨k', h1, hk'⟩ h
     ·exact h1⟩
 open Classical in
 refine .intro ⟨_, _, h0, fun env st => ∃ k, W env st k, fun env st => if h : ∃ k, W env st k then Classical.choose (least env st h) else 0, ⟨_, i0, rfl, rfl, hP, rfl⟩, fun env st hk => ?_⟩
 obtain ⟨⟨i, e1, e2, e3, e5⟩, hmin⟩ := Classical.choose_spec (least env st hk)
 have := hr i e3
 rw [← e1, ← e2] at this
 refine dL htr a _ _ env st ?_ this
 ·intro e env' st' h
  cases e with
  | normal =>
   obtain ⟨j, b3, b5, g⟩ := h
   have hW : W (F j) ⟨c, G j⟩ (μ j) := ⟨j, rfl, rfl, b3, rfl⟩
   refine ⟨F j, ⟨c, G j⟩, g, ⟨_, hW⟩, ?_⟩
   show (if h : ∃ k, W (F j) ⟨c, G j⟩ k then Classical.choose (least _ _ h) else 0) < (if h : ∃ k, W env st k then Classical.choose (least env st h) else 0)
   rw [dif_pos ⟨_, hW⟩, dif_pos hk, ← e5]
   exact Nat.lt_of_le_of_lt ((Classical.choose_spec (least _ _ ⟨_, hW⟩)).2 _ hW) b5
  | exit j => simp only [oe] at h ⊢; split <;> rename_i hj <;> simp only [hj, if_true, if_false] at h <;> exact h
  | ret => exact h
def nth : List aN → Nat → aN
 | [], _ => .un
 | a :: _, 0 => a
 | _ :: r, n + 1 => nth r n
theorem sb : ∀ (l : List aN) (n : Nat), l.getD n .un = nth l n
 | [], n => by simp [nth]
 | a :: _, 0 => by simp [nth]
 | _ :: r, n + 1 => by simpa [nth] using sb r n
def ca (env rs : List aN) : Src → aN
 | .s n => nth env n
 | .l p => bif Nat.blt p rs.length then nth rs (rs.length - 1 - p) else .un
 | .c d => ⟨true, d⟩
theorem jC (env rs : List aN) : Src.ev env rs.reverse = ca env rs := by
 funext s
 cases s with
 | s n => exact sb env n
 | l p =>
  simp only [Src.ev, ca]
  cases h : Nat.blt p rs.length with
  | true =>
   have : p < rs.length := by simp [Nat.blt] at h; omega
   rw [cond_true, ← sb]
   simp only [List.getD]
   rw [List.getElem?_reverse this]
  | false =>
   have : ¬ p < rs.length := by intro e; have : Nat.blt p rs.length = true := by { simp [Nat.blt]; omega }; rw [this] at h; cases h
   rw [cond_false]
   simp [List.getD, List.getElem?_eq_none (show rs.reverse.length ≤ p by simp; omega)]
 | c d => rfl
def aG (Γ : Ctx) (draw : Bool) (l : List GI) (env rs : List aN) (nx : Nat) (m : List (Nat × bm)) (K : List aN → St → Prop) : Prop := eX Γ draw l env rs.reverse ⟨nx, m⟩ K
def E9 (env rs : List aN) : List (Nat × Nat) → List aN
 | [] => env
 | (s, p) :: r => E9 (env.set s (ca [] rs (.l p))) rs r
theorem xA (rs : List aN) : ∀ (cm : List (Nat × Nat)) (env : List aN), er env rs.reverse cm = E9 env rs cm
 | [], env => rfl
 | (s, p) :: r, env => by
  simp only [er, E9]
  rw [xA rs r, ← congrFun (jC [] rs) (.l p)]
  rfl
theorem aw {draw : Bool} {ins : List GI} {cm : List (Nat × Nat)} {b : AC} {nx : Nat} {m : List (Nat × bm)}
  (h : aG Γ draw ins env [] nx m (fun vs st' => bo Γ b Q (er env vs cm) st')) : bo Γ (.seq (.reg draw ins cm) b) Q env ⟨nx, m⟩ := .intro (.intro h)
theorem FR {draw : Bool} {ins : List GI} {cm : List (Nat × Nat)} {nx : Nat} {m : List (Nat × bm)}
  (h : aG Γ draw ins env [] nx m (fun vs st' => Q .normal (er env vs cm) st')) : bo Γ (.reg draw ins cm) Q env ⟨nx, m⟩ := .intro h
theorem DI {draw : Bool} {cm : List (Nat × Nat)} {b : AC} {nx nx' : Nat} {m : List (Nat × bm)} {rs bF env' : List aN} (h : bo Γ b Q env' ⟨nx', m⟩)
  (he : E9 env rs cm = env' := by exact rfl) (hn : nx + rs.length = nx' := by exact vv) : aG Γ draw [] bF rs nx m (fun vs st' => bo Γ b Q (er env vs cm) st') := by
 subst he; subst hn
 simp only [aG, eX, List.length_reverse, xA]
 exact h
theorem DJ {draw : Bool} {cm : List (Nat × Nat)} {nx nx' : Nat} {m : List (Nat × bm)} {rs bF env' : List aN} (h : Q .normal env' ⟨nx', m⟩)
  (he : E9 env rs cm = env' := by exact rfl) (hn : nx + rs.length = nx' := by exact vv) : aG Γ draw [] bF rs nx m (fun vs st' => Q .normal (er env vs cm) st') := by
 subst he; subst hn
 simp only [aG, eX, List.length_reverse, xA]
 exact h
theorem ak {c : Src} {a b r : AC} {t : Bool} (h1 : t = true → bo Γ (.seq a r) Q env st) (h2 : t = false → bo Γ (.seq b r) Q env st) (hc : ca env [] c = ⟨true, .bool t⟩ := by exact rfl) : bo Γ (.seq (.cond c a b) r) Q env st := by
 have hc' : c.ev env [] = ⟨true, .bool t⟩ := by rw [← hc, ← jC]; rfl
 refine .intro (.intro ?_)
 simp only [hc']
 refine ⟨trivial, fun ht => ?_, fun ht => ?_⟩
 ·obtain ⟨e, s, g, h⟩ := h1 ht; exact fJ g h
 ·obtain ⟨e, s, g, h⟩ := h2 ht; exact fJ g h
theorem wp_cond {c : Src} {a b : AC} {t : Bool} (h1 : t = true → bo Γ a Q env st) (h2 : t = false → bo Γ b Q env st) (hc : ca env [] c = ⟨true, .bool t⟩ := by exact rfl) : bo Γ (.cond c a b) Q env st := by
 have hc' : c.ev env [] = ⟨true, .bool t⟩ := by rw [← hc, ← jC]; rfl
 refine .intro ?_
 simp only [hc']
 exact ⟨trivial, h1, h2⟩
theorem az.to {lo c nx nx' : Nat} {env env' : List aN} {m m' : List (Nat × bm)} (σ : List (Nat × Nat)) (hc : nx' = c) (h : eQ lo c σ = true) (he : fE lo σ env env') (hm : aV lo c σ m m') : az lo env ⟨nx, m⟩ env' ⟨nx', m'⟩ := by
 subst hc; exact .ren σ nx' env env' nx m m' h he hm
theorem aO {α β : Type} (q : α → β) (xs : List α) : (xs.map q).take xs.length = xs.map q := List.take_of_length_le (by simp)
theorem bP {α : Type} {q : α → D} (h : ∀ x, (q x).aL = true) : ∀ xs : List α, aH (xs.map q) = true
 | [] => rfl
 | a :: r => by simp only [List.map_cons, aH, h a, bP h r, Bool.and_true]
theorem az.fz {lo : Nat} {env env' env2 : List aN} {nx k : Nat} {m m' : List (Nat × bm)} {es : List D} {st2 : St} (l : Nat) (hl : look m l = some (.buf k es)) (hn : aH es = true) (he : lM l k es env = env') (hm : nn l k es (cg m l) = m') (h : az lo env' ⟨nx, m'⟩ env2 st2) : az lo env ⟨nx, m⟩ env2 st2 := by
 have := az.As (lo := lo) l env ⟨nx, m⟩
 simp only [Abs.As, hl, hn, cond_true, he, hm] at this
 exact .trans _ _ _ _ _ _ this h
theorem ij {a : AC} {nx k : Nat} {m m' : List (Nat × bm)} {es : List D} {env env' : List aN} (l : Nat) (h : bo Γ a Q env' ⟨nx, m'⟩) (hl : look m l = some (.buf k es) := by exact rfl) (hn : aH es = true := by first | exact rfl | exact bP (fun _ => rfl) _)
  (he : lM l k es env = env' := by simp only [lM, gI, kL, nn, oI, cg, Nat.reduceEqDiff, if_true, if_false, and_self, true_and, and_true, false_and, and_false, Nat.zero_add, List.length_map, Nat.le_refl, List.drop_zero, aO, reduceCtorEq, List.length_cons, List.length_nil, Nat.reduceAdd, Nat.reduceLeDiff]; exact rfl)
  (hm : nn l k es (cg m l) = m' := by simp only [lM, gI, kL, nn, oI, cg, Nat.reduceEqDiff, if_true, if_false, and_self, true_and, and_true, false_and, and_false, Nat.zero_add, List.length_map, Nat.le_refl, List.drop_zero, aO, reduceCtorEq, List.length_cons, List.length_nil, Nat.reduceAdd, Nat.reduceLeDiff]; exact rfl) : bo Γ a Q env ⟨nx, m⟩ :=
 fJ (az.fz l hl hn he hm (.refl _ _)) h
theorem Ea.rf : ∀ e : List aN, Ea e e
 | [] => trivial
 | _ :: r => ⟨⟨rfl, .refl _⟩, Ea.rf r⟩
theorem yr.nil : yr [] [] := ⟨rfl, fun _ => .refl _⟩
theorem yr.cons {x y : D} {a b : List D} (h : qN x y) (h2 : yr a b) : yr (x :: a) (y :: b) := ⟨by simp [h2.1], fun i => by cases i with
 | zero => exact h
 | succ i => simpa using h2.2 i⟩
theorem yr.rf (a : List D) : yr a a := ⟨rfl, fun _ => .refl _⟩
theorem yr.map {α : Type} {q p : α → D} : ∀ {xs : List α}, (∀ x ∈ xs, qN (q x) (p x)) → yr (xs.map q) (xs.map p)
 | [], _ => .nil
 | x :: r, h => .cons (h x (.head _)) (yr.map fun y hy => h y (.tail _ hy))
theorem qN.ag {a b : List D} (h : yr a b) : qN (.agg a) (.agg b) := .agg _ _ h.1 h.2
theorem qN.ss {k : Nat} {a b : List D} (h : yr a b) : qN (.sl k a) (.sl k b) := .sl _ _ _ h.1 h.2
theorem zm.nil {m : List (Nat × bm)} : zm m [] := trivial
theorem zm.id {m r : List (Nat × bm)} {l : Nat} {b : bm} (h : look m l = some b) (h2 : zm m r) : zm m ((l, b) :: r) := ⟨⟨b, h, by cases b <;> first | exact ⟨rfl, .rf _⟩ | exact rfl⟩, h2⟩
theorem zm.bf {m r : List (Nat × bm)} {l k : Nat} {es es' : List D} (h : look m l = some (.buf k es)) (hw : yr es es') (h2 : zm m r) : zm m ((l, .buf k es') :: r) := ⟨⟨_, h, rfl, hw⟩, h2⟩
theorem pe {a : AC} {nx : Nat} {m : List (Nat × bm)} {env : List aN} (m' : List (Nat × bm)) (hm : zm m m') (h : bo Γ a Q env ⟨nx, m'⟩) : bo Γ a Q env ⟨nx, m⟩ := fJ (.nz _ _ _ _ _ (Ea.rf _) hm) h
theorem fE.nil {lo : Nat} {σ : List (Nat × Nat)} : fE lo σ [] [] := trivial
theorem fE.un {lo : Nat} {σ : List (Nat × Nat)} {a : aN} {r s : List aN} (h : fE lo σ r s) : fE lo σ (a :: r) (.un :: s) := ⟨.inr rfl, h⟩
theorem fE.eq {lo : Nat} {σ : List (Nat × Nat)} {ok : Bool} {d d' : D} {r s : List aN} (hd : qI lo σ d = some d') (h : fE lo σ r s) : fE lo σ (⟨ok, d⟩ :: r) (⟨ok, d'⟩ :: s) := ⟨.inl ⟨rfl, .inr (.inl hd)⟩, h⟩
theorem fE.nl {lo : Nat} {σ : List (Nat × Nat)} {ok : Bool} {d d' : D} {r s : List aN} (hd : d' = d) (hn : d.aL = true) (h : fE lo σ r s) : fE lo σ (⟨ok, d⟩ :: r) (⟨ok, d'⟩ :: s) := ⟨.inl ⟨rfl, .inl ⟨hd, hn⟩⟩, h⟩
theorem fE.ni {lo : Nat} {σ : List (Nat × Nat)} {ok : Bool} {d d' : D} {r s : List aN} (hd : pj d d') (h : fE lo σ r s) : fE lo σ (⟨ok, d⟩ :: r) (⟨ok, d'⟩ :: s) := ⟨.inl ⟨rfl, .inr (.inr hd)⟩, h⟩
section
variable {lo c : Nat} {σ : List (Nat × Nat)} {m r : List (Nat × bm)}
theorem aV.nil : aV lo c σ m [] := trivial
theorem aV.nl {k l' : Nat} {es es' : List D} (l : Nat) (hl : kn lo σ l = some l') (hm : look m l = some (.buf k es)) (he : es' = es) (hn : aH es = true) (h : aV lo c σ m r) : aV lo c σ m ((l', .buf k es') :: r) :=
 ⟨.inl ⟨l, _, hl, hm, rfl, .inl ⟨he, hn⟩⟩, h⟩
theorem aV.eq {k l' : Nat} {es es' : List D} (l : Nat) (hl : kn lo σ l = some l') (hm : look m l = some (.buf k es)) (he : oW lo σ es = some es') (h : aV lo c σ m r) : aV lo c σ m ((l', .buf k es') :: r) :=
 ⟨.inl ⟨l, _, hl, hm, rfl, .inr (.inl he)⟩, h⟩
theorem aV.ni {k l' : Nat} {es es' : List D} (l : Nat) (hl : kn lo σ l = some l') (hm : look m l = some (.buf k es)) (he : xj es es') (h : aV lo c σ m r) : aV lo c σ m ((l', .buf k es') :: r) :=
 ⟨.inl ⟨l, _, hl, hm, rfl, .inr (.inr he)⟩, h⟩
theorem aV.fR {k l' : Nat} {es' : List D} (hl : kn lo σ l' = some l') (hm : look m l' = some (.buf k es')) (hn : aH es' = true) (h : aV lo c σ m r) : aV lo c σ m ((l', .buf k es') :: r) := .nl l' hl hm rfl hn h
theorem aV.pH {k l' : Nat} {es' es : List D} (hl : kn lo σ l' = some l') (hm : look m l' = some (.buf k es)) (he : oW lo σ es = some es') (h : aV lo c σ m r) : aV lo c σ m ((l', .buf k es') :: r) := .eq l' hl hm he h
theorem aV.mt {k l' : Nat} {es' : List D} (h1 : Nat.ble lo l' = true) (h2 : Nat.blt l' c = true) (h3 : σ.all (fun p => !Nat.beq p.2 l') = true) (he : es' = []) (h : aV lo c σ m r) : aV lo c σ m ((l', .buf k es') :: r) :=
 ⟨.inr ⟨h1, h2, h3, k, by rw [he]⟩, h⟩
theorem aV.it {l' p p' : Nat} {s s' : List UInt8} (l : Nat) (hl : kn lo σ l = some l') (hm : look m l = some (.iter s p)) (hs : s' = s) (hp : p' = p) (h : aV lo c σ m r) : aV lo c σ m ((l', .iter s' p') :: r) :=
 ⟨.inl ⟨l, _, hl, hm, hs, hp⟩, h⟩
theorem aV.qj {l' p p' : Nat} {s s' : List UInt8} (hl : kn lo σ l' = some l') (hm : look m l' = some (.iter s p)) (hs : s' = s) (hp : p' = p) (h : aV lo c σ m r) : aV lo c σ m ((l', .iter s' p') :: r) := .it l' hl hm hs hp h
theorem aV.rw {l' : Nat} {s s' : List UInt8} (l : Nat) (hl : kn lo σ l = some l') (hm : look m l = some (.row s)) (hs : s' = s) (h : aV lo c σ m r) : aV lo c σ m ((l', .row s') :: r) :=
 ⟨.inl ⟨l, _, hl, hm, hs⟩, h⟩
theorem aV.bl {l' l1 l2 n n' : Nat} {u u' : Bool} (l : Nat) (hl : kn lo σ l = some l') (hm : look m l = some (.bld (some l1) n u)) (h1 : kn lo σ l1 = some l2) (hn : n' = n) (hu : u' = u) (h : aV lo c σ m r) : aV lo c σ m ((l', .bld (some l2) n' u') :: r) :=
 ⟨.inl ⟨l, _, hl, hm, ⟨l2, h1, rfl⟩, hn, hu⟩, h⟩
theorem aV.b0 {l' n n' : Nat} {u u' : Bool} (l : Nat) (hl : kn lo σ l = some l') (hm : look m l = some (.bld none n u)) (hn : n' = n) (hu : u' = u) (h : aV lo c σ m r) : aV lo c σ m ((l', .bld none n' u') :: r) :=
 ⟨.inl ⟨l, _, hl, hm, rfl, hn, hu⟩, h⟩
end
mutual
def xC (m : List (Nat × bm)) : Sh → D → D
 | .a, d => match d with
  | .av => .sl 0 []
  | d => d
 | .sl k cs, d => match d with
  | .av => .sl k []
  | .own l k' i c => .sl k' ((((aE m l).drop i).take c).map fun e => match e with
   | .agg ds => .agg (xL m cs ds)
   | e => xH m cs e)
  | d => d
 | .pt cs, d => match d with
  | .ptr l k i o => .ref k ((aE m l).map fun e => match e with
   | .agg ds => .agg (xL m cs ds)
   | e => xH m cs e) i o
  | d => d
def xH (m : List (Nat × bm)) : List Sh → D → D
 | [], d => d
 | s :: _, d => xC m s d
def xL (m : List (Nat × bm)) : List Sh → List D → List D
 | [], ds => ds
 | s :: r, ds => match ds with
  | [] => []
  | d :: ds => xC m s d :: xL m r ds
end
def xV (m : List (Nat × bm)) (cs : List Sh) : D → D
 | .agg ds => .agg (xL m cs ds)
 | e => xH m cs e
mutual
def FU (m : List (Nat × bm)) : Sh → D → Prop
 | .a, d => d.aL = true
 | .sl _ cs, d => match d with
  | .own l k' i c => dz m l k' (i + c) ∧ ∀ e ∈ ((aE m l).drop i).take c, (match e with
   | .agg ds => Co m cs ds
   | e => FV m cs e)
  | d => d.aL = true
 | .pt cs, d => match d with
  | .ptr l k _ _ => dz m l k 0 ∧ ∀ e ∈ aE m l, (match e with
   | .agg ds => Co m cs ds
   | e => FV m cs e)
  | d => d.aL = true
def FV (m : List (Nat × bm)) : List Sh → D → Prop
 | [], d => d.aL = true
 | s :: _, d => FU m s d
def Co (m : List (Nat × bm)) : List Sh → List D → Prop
 | [], ds => aH ds = true
 | s :: r, ds => match ds with
  | [] => True
  | d :: ds => FU m s d ∧ Co m r ds
end
def Eu (m : List (Nat × bm)) (cs : List Sh) : D → Prop
 | .agg ds => Co m cs ds
 | e => FV m cs e
mutual
theorem Cg (m : List (Nat × bm)) : ∀ (s : Sh) (d : D), kA m s d = xC m s d ∧ (hZ m s d ↔ FU m s d)
 | .a, d => by cases d <;> simp only [kA, xC, hZ, FU] <;> exact ⟨trivial, trivial⟩
 | .sl k cs, d => by
  cases d <;> simp only [kA, xC, hZ, FU] <;> first
   | exact ⟨trivial, trivial⟩
   | skip
  rename_i l k' i c
  exact ⟨congrArg (D.sl k') (List.map_congr_left fun e _ => (xe m cs e).1), and_congr_right fun _ => forall_congr' fun e => imp_congr_right fun _ => (xe m cs e).2⟩
 | .pt cs, d => by
  cases d <;> simp only [kA, xC, hZ, FU] <;> first
   | exact ⟨trivial, trivial⟩
   | skip
  rename_i l k' i c
  exact ⟨congrArg (fun x => D.ref k' x i c) (List.map_congr_left fun e _ => (xe m cs e).1), and_congr_right fun _ => forall_congr' fun e => imp_congr_right fun _ => (xe m cs e).2⟩
theorem xe (m : List (Nat × bm)) : ∀ (cs : List Sh) (d : D), fL m cs d = (match d with
   | .agg ds => .agg (xL m cs ds)
   | e => xH m cs e) ∧ (ey m cs d ↔ (match d with
   | .agg ds => Co m cs ds
   | e => FV m cs e))
 | [], d => by cases d <;> simp only [fL, xH, xL, ey, FV, Co, D.aL] <;> first | exact ⟨trivial, Iff.rfl⟩ | exact ⟨trivial, trivial⟩
 | s :: r, d => by
  cases d <;> simp only [fL, xH, ey, FV] <;> first
   | exact Cg m s _
   | skip
  rename_i ds
  exact ⟨congrArg D.agg (zg m (s :: r) ds).1, (zg m (s :: r) ds).2⟩
theorem zg (m : List (Nat × bm)) : ∀ (cs : List Sh) (ds : List D), kB m cs ds = xL m cs ds ∧ (iB m cs ds ↔ Co m cs ds)
 | [], ds => by simp only [kB, xL, iB, Co]; exact ⟨trivial, trivial⟩
 | s :: r, [] => by simp only [kB, xL, iB, Co]; exact ⟨trivial, trivial⟩
 | s :: r, d :: ds => by
  simp only [kB, xL, iB, Co, (Cg m s d).1, (zg m r ds).1]
  exact ⟨trivial, and_congr (Cg m s d).2 (zg m r ds).2⟩
end
theorem uy (m : List (Nat × bm)) (cs : List Sh) (d : D) : fL m cs d = xV m cs d ∧ (ey m cs d ↔ Eu m cs d) := by
 have := xe m cs d
 cases d <;> exact this
def jk (m : List (Nat × bm)) : List (List Sh) → List D → List D
 | _, [] => []
 | [], d :: r => xV m [.a] d :: jk m [] r
 | s :: ss, d :: r => xV m s d :: jk m ss r
def fV (m : List (Nat × bm)) : List (List Sh) → List D → Prop
 | _, [] => True
 | [], d :: r => Eu m [.a] d ∧ fV m [] r
 | s :: ss, d :: r => Eu m s d ∧ fV m ss r
theorem cy (m : List (Nat × bm)) : ∀ (ss : List (List Sh)) (ds : List D), dD m ss ds = jk m ss ds ∧ (fG m ss ds ↔ fV m ss ds)
 | ss, [] => by simp [dD, jk, fG, fV]
 | [], d :: r => by
  simp only [dD, jk, fG, fV, (uy m [.a] d).1, (cy m [] r).1]
  exact ⟨trivial, and_congr (uy m _ d).2 (cy m [] r).2⟩
 | s :: ss, d :: r => by
  simp only [dD, jk, fG, fV, (uy m s d).1, (cy m ss r).1]
  exact ⟨trivial, and_congr (uy m _ d).2 (cy m ss r).2⟩
def eC (a : aI) (d : D) : Ex → List aN → St → Prop := fun e env st => e.home ∧ n4 st.m env a.res ∧ yY a env st ∧ DL a env st = d
def FW (a : aI) (env : List aN) (m : List (Nat × bm)) : D := match a.res with
 | [r] => xV m (a.rsh.getD 0 []) (wO m env r)
 | rs => .tup (jk m a.rsh (lK m env rs))
def Ch (a : aI) (env : List aN) (m : List (Nat × bm)) : Prop := match a.res with
 | [r] => Eu m (a.rsh.getD 0 []) (wO m env r)
 | rs => fV m a.rsh (lK m env rs)
theorem FG {a : aI} {d : D} {e : Ex} {nx : Nat} {m : List (Nat × bm)} (he : e.home) (h1 : n4 m env a.res) (h2 : Ch a env m) (h3 : FW a env m = d) : eC a d e env ⟨nx, m⟩ := by
 refine ⟨he, h1, ?_, ?_⟩
 ·unfold yY; unfold Ch at h2
  split <;> rename_i hr
  ·rw [hr] at h2; exact (uy _ _ _).2.2 h2
  ·split at h2
   ·rename_i hr2; exact absurd hr2 (hr _)
   ·exact (cy _ _ _).2.2 h2
 ·unfold DL; unfold FW at h3
  split <;> rename_i hr
  ·rw [hr] at h3; rw [(uy _ _ _).1]; exact h3
  ·split at h3
   ·rename_i hr2; exact absurd hr2 (hr _)
   ·rw [(cy _ _ _).1]; exact h3
def zl (a : aI) (k : Nat) (vd sd : D) : Ex → List aN → St → Prop := fun e env st => e.home ∧ n4 st.m env a.res ∧ (gO a env st).aL = true ∧ gO a env st = vd ∧ look st.m 0 = some (.buf k [sd]) ∧ sd.aL = true
theorem dX {a : aI} {k : Nat} {vd sd : D} {e : Ex} {nx : Nat} {m : List (Nat × bm)} (he : e.home) (h1 : n4 m env a.res) (h2 : gO a env ⟨nx, m⟩ = vd) (h3 : look m 0 = some (.buf k [sd])) (hn : vd.aL = true) (hs : sd.aL = true) : zl a k vd sd e env ⟨nx, m⟩ := ⟨he, h1, by rw [h2]; exact hn, h2, h3, hs⟩
end
end Go.Abs
end
section
namespace Go.Abs
section
variable {Γ : Ctx} {draw : Bool} {r : List GI} {env rs : List aN} {nx : Nat} {m : List (Nat × bm)} {K : List aN → St → Prop} {g : Option (Nat × Bool)} {f : Bool}
def at8 (s : List UInt8) (i : Nat) : Int := ((s.getD i 0).toNat : Int)
theorem E5 (s : List UInt8) (i : Nat) : 0 ≤ at8 s i ∧ at8 s i < 256 := by
 have := (s.getD i 0).toNat_lt
 unfold at8; omega
theorem wrap_i64 {a : Int} (h1 : -9223372036854775808 ≤ a) (h2 : a ≤ 9223372036854775807) : IntKind.i64.wrap a = a := IntWalk.i64_in _ (by omega)
theorem ot (a b : List UInt8) : (a == b) = decide (a = b) := by
 by_cases h : a = b
 ·subst h; simp
 ·simp [h]
theorem getD_map {α : Type} [Inhabited α] {q : α → D} {xs : List α} {i : Nat} (h : i < xs.length) : (xs.map q).getD i .any = q xs[i]! := by
 simp [List.getD, h]
def GF (rs : List aN) : Option (Nat × Bool) → Bool → Prop
 | none, f => f = true
 | some (j, w), f => ∃ ok b, ca [] rs (.l j) = ⟨ok, .bool b⟩ ∧ (ok && (b == w)) = f
theorem GF.flag (h : GF rs g f) : flag rs.reverse g = f ∧ wc rs.reverse g := by
 cases g with
 | none => exact ⟨h.symm, trivial⟩
 | some jw =>
  obtain ⟨j, w⟩ := jw
  obtain ⟨ok, b, h1, h2⟩ := h
  have h3 : rs.reverse.getD j .un = ⟨ok, .bool b⟩ := by rw [← h1, ← jC]; rfl
  simp only [Abs.flag, wc, h3, h2, D.isBool]
  exact ⟨trivial, fun _ => trivial⟩
theorem BR {i : aA} (hM : i.cu = false) (hF : i.qh draw g = false) (hC : g.isSome = true → i.calm = true) (hg : GF rs g f) (d : D) (ho : f = true → i.cV Γ (ca env rs) m)
  (hv : f = true → i.val Γ (ca env rs) m (nx + rs.length) = d) (m' : List (Nat × bm)) (hm : i.bM Γ (ca env rs) m (nx + rs.length) = m')
  (h : (f = true → i.xo draw (ca env rs)) → aG Γ draw r env (⟨f, d⟩ :: rs) nx m' K) : aG Γ draw (⟨i, g⟩ :: r) env rs nx m K := by
 obtain ⟨hf, hb⟩ := hg.flag
 unfold aG
 rw [iV hM hF, jC, hf]
 refine ⟨?_, ho, fun ha => ⟨d, by simpa using hv, ?_⟩⟩
 ·cases g with
  | none => trivial
  | some jw => exact ⟨hC rfl, hb⟩
 ·have := h ha
  unfold aG at this
  simp only [List.reverse_cons] at this
  simpa only [List.length_reverse, hm] using this
theorem fA {i : aA} (hC : i.calm = true) (hg : GF rs g f) (d : D) (ho : f = true → i.cV Γ (ca env rs) m)
  (hv : f = true → i.val Γ (ca env rs) m (nx + rs.length) = d) (m' : List (Nat × bm)) (hm : i.bM Γ (ca env rs) m (nx + rs.length) = m')
  (h : (f = true → i.xo draw (ca env rs)) → aG Γ draw r env (⟨f, d⟩ :: rs) nx m' K) : aG Γ draw (⟨i, g⟩ :: r) env rs nx m K :=
 BR (by cases i <;> first | rfl | cases hC) (by simp [aA.qh, hC]) (fun _ => hC) hg d ho hv m' hm h
theorem bI {i : aA} (hC : i.pure = true) (hg : GF rs g f) (d : D) (ho : f = true → i.cV Γ (ca env rs) m)
  (hv : f = true → i.val Γ (ca env rs) m (nx + rs.length) = d) 
  (h : (f = true → i.xo draw (ca env rs)) → aG Γ draw r env (⟨f, d⟩ :: rs) nx m K) : aG Γ draw (⟨i, g⟩ :: r) env rs nx m K :=
 fA (z6 hC) hg d ho hv m (BN hC) h
theorem n3 {i : aA} (hM : i.cu = false) (d : D) (ho : i.cV Γ (ca env rs) m)
  (hv : i.val Γ (ca env rs) m (nx + rs.length) = d) (m' : List (Nat × bm)) (hm : i.bM Γ (ca env rs) m (nx + rs.length) = m')
  (h : i.xo draw (ca env rs) → aG Γ draw r env (⟨true, d⟩ :: rs) nx m' K) : aG Γ draw (⟨i, none⟩ :: r) env rs nx m K :=
 BR hM (by simp [aA.qh]) (fun h => by cases h) rfl d (fun _ => ho) (fun _ => hv) m' hm (fun ha => h (ha rfl))
theorem r_mv {x : Src} {fx : Bool} {d : D} (h : aG Γ draw r env (⟨f, d⟩ :: rs) nx m K) (hg : GF rs g f := by exact cI) (hx : ca env rs x = ⟨fx, d⟩ := by exact rfl) (kx : f = true → fx = true := by exact bS) : aG Γ draw (⟨.mv x, g⟩ :: r) env rs nx m K :=
 bI rfl hg _ (fun hf => by simp [aA.cV, hx, kx hf]) (fun hf => by simp [aA.val, hx]) (fun ha => h)
theorem ct {x : Src} {fx : Bool} {b : Bool} (h : aG Γ draw r env (⟨f, .bool (!b)⟩ :: rs) nx m K) (hg : GF rs g f := by exact cI) (hx : ca env rs x = ⟨fx, .bool b⟩ := by exact rfl) (kx : f = true → fx = true := by exact bS) : aG Γ draw (⟨.un .not x, g⟩ :: r) env rs nx m K :=
 bI rfl hg _ (fun hf => by simp [aA.cV, hx, kx hf]) (fun hf => by simp [aA.val, hx]) (fun ha => h)
theorem bY {c b : Src} {fc fb t y : Bool} (h : aG Γ draw r env (⟨f, .bool (t || y)⟩ :: rs) nx m K) (hg : GF rs g f := by exact cI) (hc : ca env rs c = ⟨fc, .bool t⟩ := by exact rfl) (hb : ca env rs b = ⟨fb, .bool y⟩ := by exact rfl) (kc : f = true → fc = true := by exact bS) (kb : f = true → t = false → fb = true := by intro h1 h2; first | (rw [h2]; exact rfl) | (rw [h2, h1]; rfl) | (rw [h1, h2]; rfl) | simp_all) : aG Γ draw (⟨.pick c (.c (.bool true)) b, g⟩ :: r) env rs nx m K :=
 bI rfl hg _ (fun hf => by simp only [aA.cV, hc, hb]; exact ⟨kc hf, fun _ => rfl, fun e => kb hf e⟩) (fun hf => by simp only [aA.val, hc, hb]; cases t <;> rfl) (fun _ => h)
theorem bK {c a : Src} {fc fa t y : Bool} (h : aG Γ draw r env (⟨f, .bool (t && y)⟩ :: rs) nx m K) (hg : GF rs g f := by exact cI) (hc : ca env rs c = ⟨fc, .bool t⟩ := by exact rfl) (ha : ca env rs a = ⟨fa, .bool y⟩ := by exact rfl) (kc : f = true → fc = true := by exact bS) (ka : f = true → t = true → fa = true := by intro h1 h2; first | (rw [h2]; exact rfl) | (rw [h2, h1]; rfl) | (rw [h1, h2]; rfl) | simp_all) : aG Γ draw (⟨.pick c a (.c (.bool false)), g⟩ :: r) env rs nx m K :=
 bI rfl hg _ (fun hf => by simp only [aA.cV, hc, ha]; exact ⟨kc hf, fun e => ka hf e, fun _ => rfl⟩) (fun hf => by simp only [aA.val, hc, ha]; cases t <;> rfl) (fun _ => h)
theorem aF {x y : Src} {fx fy : Bool} {a b : Int} (h : aG Γ draw r env (⟨f, .int .i64 (a + b)⟩ :: rs) nx m K) (hg : GF rs g f := by exact cI) (hx : ca env rs x = ⟨fx, .int .i64 a⟩ := by exact rfl) (hy : ca env rs y = ⟨fy, .int .i64 b⟩ := by exact rfl) (kx : f = true → fx = true := by exact bS) (ky : f = true → fy = true := by exact bS) (hb : f = true → -9223372036854775808 ≤ a + b ∧ a + b ≤ 9223372036854775807 := by exact Aq) : aG Γ draw (⟨.bin .add x y, g⟩ :: r) env rs nx m K :=
 bI rfl hg _ (fun hf => by simp [aA.cV, hx, hy, kx hf, ky hf, iZ]) (fun hf => by simp only [aA.val, hx, hy, j8]; rw [wrap_i64 (hb hf).1 (hb hf).2]) (fun ha => h)
theorem xX {x y : Src} {fx fy : Bool} {k : IntKind} {a b : Int} (v : Int) (h : aG Γ draw r env (⟨f, .int k v⟩ :: rs) nx m K) (hg : GF rs g f := by exact cI) (hx : ca env rs x = ⟨fx, .int k a⟩ := by exact rfl) (hy : ca env rs y = ⟨fy, .int k b⟩ := by exact rfl) (kx : f = true → fx = true := by exact bS) (ky : f = true → fy = true := by exact bS) (hb : f = true → k.wrap (a + b) = v) : aG Γ draw (⟨.bin .add x y, g⟩ :: r) env rs nx m K :=
 bI rfl hg _ (fun hf => by simp [aA.cV, hx, hy, kx hf, ky hf, iZ]) (fun hf => by simp only [aA.val, hx, hy, j8]; rw [hb hf]) (fun ha => h)
theorem cA {x y : Src} {fx fy : Bool} {a b : Int} (h : aG Γ draw r env (⟨f, .int .i64 (a - b)⟩ :: rs) nx m K) (hg : GF rs g f := by exact cI) (hx : ca env rs x = ⟨fx, .int .i64 a⟩ := by exact rfl) (hy : ca env rs y = ⟨fy, .int .i64 b⟩ := by exact rfl) (kx : f = true → fx = true := by exact bS) (ky : f = true → fy = true := by exact bS) (hb : f = true → -9223372036854775808 ≤ a - b ∧ a - b ≤ 9223372036854775807 := by exact Aq) : aG Γ draw (⟨.bin .sub x y, g⟩ :: r) env rs nx m K :=
 bI rfl hg _ (fun hf => by simp [aA.cV, hx, hy, kx hf, ky hf, iZ]) (fun hf => by simp only [aA.val, hx, hy, j8]; rw [wrap_i64 (hb hf).1 (hb hf).2]) (fun ha => h)
theorem FE {x y : Src} {fx fy : Bool} {k : IntKind} {a b : Int} (v : Int) (h : aG Γ draw r env (⟨f, .int k v⟩ :: rs) nx m K) (hg : GF rs g f := by exact cI) (hx : ca env rs x = ⟨fx, .int k a⟩ := by exact rfl) (hy : ca env rs y = ⟨fy, .int k b⟩ := by exact rfl) (kx : f = true → fx = true := by exact bS) (ky : f = true → fy = true := by exact bS) (hb : f = true → k.wrap (a - b) = v) : aG Γ draw (⟨.bin .sub x y, g⟩ :: r) env rs nx m K :=
 bI rfl hg _ (fun hf => by simp [aA.cV, hx, hy, kx hf, ky hf, iZ]) (fun hf => by simp only [aA.val, hx, hy, j8]; rw [hb hf]) (fun ha => h)
theorem DE {x y : Src} {fx fy : Bool} {a b : Int} (h : aG Γ draw r env (⟨f, .int .i64 (a * b)⟩ :: rs) nx m K) (hg : GF rs g f := by exact cI) (hx : ca env rs x = ⟨fx, .int .i64 a⟩ := by exact rfl) (hy : ca env rs y = ⟨fy, .int .i64 b⟩ := by exact rfl) (kx : f = true → fx = true := by exact bS) (ky : f = true → fy = true := by exact bS) (hb : f = true → -9223372036854775808 ≤ a * b ∧ a * b ≤ 9223372036854775807 := by exact Aq) : aG Γ draw (⟨.bin .mul x y, g⟩ :: r) env rs nx m K :=
 bI rfl hg _ (fun hf => by simp [aA.cV, hx, hy, kx hf, ky hf, iZ]) (fun hf => by simp only [aA.val, hx, hy, j8]; rw [wrap_i64 (hb hf).1 (hb hf).2]) (fun ha => h)
theorem aW {x y : Src} {fx fy : Bool} {k : IntKind} {a b : Int} (h : aG Γ draw r env (⟨f, .bool (decide (a < b))⟩ :: rs) nx m K) (hg : GF rs g f := by exact cI) (hx : ca env rs x = ⟨fx, .int k a⟩ := by exact rfl) (hy : ca env rs y = ⟨fy, .int k b⟩ := by exact rfl) (kx : f = true → fx = true := by exact bS) (ky : f = true → fy = true := by exact bS) : aG Γ draw (⟨.bin .lss x y, g⟩ :: r) env rs nx m K :=
 bI rfl hg _ (fun hf => by simp [aA.cV, hx, hy, kx hf, ky hf, iZ]) (fun hf => by simp only [aA.val, hx, hy, j8] <;> rfl) (fun ha => h)
theorem jj {x y : Src} {fx fy : Bool} {k : IntKind} {a b : Int} (h : aG Γ draw r env (⟨f, .bool (decide (a ≤ b))⟩ :: rs) nx m K) (hg : GF rs g f := by exact cI) (hx : ca env rs x = ⟨fx, .int k a⟩ := by exact rfl) (hy : ca env rs y = ⟨fy, .int k b⟩ := by exact rfl) (kx : f = true → fx = true := by exact bS) (ky : f = true → fy = true := by exact bS) : aG Γ draw (⟨.bin .leq x y, g⟩ :: r) env rs nx m K :=
 bI rfl hg _ (fun hf => by simp [aA.cV, hx, hy, kx hf, ky hf, iZ]) (fun hf => by simp only [aA.val, hx, hy, j8] <;> rfl) (fun ha => h)
theorem bE {x y : Src} {fx fy : Bool} {k : IntKind} {a b : Int} (h : aG Γ draw r env (⟨f, .bool (decide (b < a))⟩ :: rs) nx m K) (hg : GF rs g f := by exact cI) (hx : ca env rs x = ⟨fx, .int k a⟩ := by exact rfl) (hy : ca env rs y = ⟨fy, .int k b⟩ := by exact rfl) (kx : f = true → fx = true := by exact bS) (ky : f = true → fy = true := by exact bS) : aG Γ draw (⟨.bin .gtr x y, g⟩ :: r) env rs nx m K :=
 bI rfl hg _ (fun hf => by simp [aA.cV, hx, hy, kx hf, ky hf, iZ]) (fun hf => by simp only [aA.val, hx, hy, j8] <;> rfl) (fun ha => h)
theorem iv {x y : Src} {fx fy : Bool} {k : IntKind} {a b : Int} (h : aG Γ draw r env (⟨f, .bool (decide (b ≤ a))⟩ :: rs) nx m K) (hg : GF rs g f := by exact cI) (hx : ca env rs x = ⟨fx, .int k a⟩ := by exact rfl) (hy : ca env rs y = ⟨fy, .int k b⟩ := by exact rfl) (kx : f = true → fx = true := by exact bS) (ky : f = true → fy = true := by exact bS) : aG Γ draw (⟨.bin .geq x y, g⟩ :: r) env rs nx m K :=
 bI rfl hg _ (fun hf => by simp [aA.cV, hx, hy, kx hf, ky hf, iZ]) (fun hf => by simp only [aA.val, hx, hy, j8] <;> rfl) (fun ha => h)
theorem aQ {x y : Src} {fx fy : Bool} {k : IntKind} {a b : Int} (h : aG Γ draw r env (⟨f, .bool (decide (a = b))⟩ :: rs) nx m K) (hg : GF rs g f := by exact cI) (hx : ca env rs x = ⟨fx, .int k a⟩ := by exact rfl) (hy : ca env rs y = ⟨fy, .int k b⟩ := by exact rfl) (kx : f = true → fx = true := by exact bS) (ky : f = true → fy = true := by exact bS) : aG Γ draw (⟨.bin .eql x y, g⟩ :: r) env rs nx m K :=
 bI rfl hg _ (fun hf => by simp [aA.cV, hx, hy, kx hf, ky hf, iZ]) (fun hf => by simp only [aA.val, hx, hy, j8] <;> rfl) (fun ha => h)
theorem bU {x y : Src} {fx fy : Bool} {k : IntKind} {a b : Int} (h : aG Γ draw r env (⟨f, .bool (!decide (a = b))⟩ :: rs) nx m K) (hg : GF rs g f := by exact cI) (hx : ca env rs x = ⟨fx, .int k a⟩ := by exact rfl) (hy : ca env rs y = ⟨fy, .int k b⟩ := by exact rfl) (kx : f = true → fx = true := by exact bS) (ky : f = true → fy = true := by exact bS) : aG Γ draw (⟨.bin .neq x y, g⟩ :: r) env rs nx m K :=
 bI rfl hg _ (fun hf => by simp [aA.cV, hx, hy, kx hf, ky hf, iZ]) (fun hf => by simp only [aA.val, hx, hy, j8] <;> rfl) (fun ha => h)
theorem BT {x y : Src} {fx fy : Bool} {a b : List UInt8} (h : aG Γ draw r env (⟨f, .bool (!(Op.bytesLess a b || decide (a = b)))⟩ :: rs) nx m K) (hg : GF rs g f := by exact cI) (hx : ca env rs x = ⟨fx, .str a⟩ := by exact rfl) (hy : ca env rs y = ⟨fy, .str b⟩ := by exact rfl) (kx : f = true → fx = true := by exact bS) (ky : f = true → fy = true := by exact bS) : aG Γ draw (⟨.bin .gtr x y, g⟩ :: r) env rs nx m K :=
 bI rfl hg _ (fun hf => by simp [aA.cV, hx, hy, kx hf, ky hf, iZ]) (fun hf => by simp only [aA.val, hx, hy, j8, ot]) (fun ha => h)
theorem xY {x y : Src} {fx fy : Bool} {a b : List UInt8} (h : aG Γ draw r env (⟨f, .bool (!Op.bytesLess a b)⟩ :: rs) nx m K) (hg : GF rs g f := by exact cI) (hx : ca env rs x = ⟨fx, .str a⟩ := by exact rfl) (hy : ca env rs y = ⟨fy, .str b⟩ := by exact rfl) (kx : f = true → fx = true := by exact bS) (ky : f = true → fy = true := by exact bS) : aG Γ draw (⟨.bin .geq x y, g⟩ :: r) env rs nx m K :=
 bI rfl hg _ (fun hf => by simp [aA.cV, hx, hy, kx hf, ky hf, iZ]) (fun hf => by simp only [aA.val, hx, hy, j8, ot]) (fun ha => h)
theorem cH {x y : Src} {fx fy : Bool} {a b : List UInt8} (h : aG Γ draw r env (⟨f, .bool (decide (a = b))⟩ :: rs) nx m K) (hg : GF rs g f := by exact cI) (hx : ca env rs x = ⟨fx, .str a⟩ := by exact rfl) (hy : ca env rs y = ⟨fy, .str b⟩ := by exact rfl) (kx : f = true → fx = true := by exact bS) (ky : f = true → fy = true := by exact bS) : aG Γ draw (⟨.bin .eql x y, g⟩ :: r) env rs nx m K :=
 bI rfl hg _ (fun hf => by simp [aA.cV, hx, hy, kx hf, ky hf, iZ]) (fun hf => by simp only [aA.val, hx, hy, j8, ot]) (fun ha => h)
theorem cn {x y : Src} {fx fy : Bool} {a b : List UInt8} (h : aG Γ draw r env (⟨f, .bool (!decide (a = b))⟩ :: rs) nx m K) (hg : GF rs g f := by exact cI) (hx : ca env rs x = ⟨fx, .str a⟩ := by exact rfl) (hy : ca env rs y = ⟨fy, .str b⟩ := by exact rfl) (kx : f = true → fx = true := by exact bS) (ky : f = true → fy = true := by exact bS) : aG Γ draw (⟨.bin .neq x y, g⟩ :: r) env rs nx m K :=
 bI rfl hg _ (fun hf => by simp [aA.cV, hx, hy, kx hf, ky hf, iZ]) (fun hf => by simp only [aA.val, hx, hy, j8, ot]) (fun ha => h)
theorem cq {x y : Src} {fx fy : Bool} {a b : List UInt8} (h : aG Γ draw r env (⟨f, .str (a ++ b)⟩ :: rs) nx m K) (hg : GF rs g f := by exact cI) (hx : ca env rs x = ⟨fx, .str a⟩ := by exact rfl) (hy : ca env rs y = ⟨fy, .str b⟩ := by exact rfl) (kx : f = true → fx = true := by exact bS) (ky : f = true → fy = true := by exact bS) (hb : f = true → a.length + b.length ≤ 9223372036854775807) : aG Γ draw (⟨.bin .add x y, g⟩ :: r) env rs nx m K :=
 bI rfl hg _ (fun hf => by simp [aA.cV, hx, hy, kx hf, ky hf, iZ, hb hf]) (fun hf => by simp only [aA.val, hx, hy, j8]) (fun ha => h)
theorem wJ {x y : Src} {fx fy : Bool} {ag : Bool} {ks : List CK} {a b : D} {v : Bool} (h : aG Γ draw r env (⟨f, .bool (v)⟩ :: rs) nx m K) (hb : et a.cells b.cells = v) (hg : GF rs g f := by exact cI) (hx : ca env rs x = ⟨fx, a⟩ := by exact rfl) (hy : ca env rs y = ⟨fy, b⟩ := by exact rfl) (kx : f = true → fx = true := by exact bS) (ky : f = true → fy = true := by exact bS) (h1 : f = true → a.isAgg = ag ∧ b.isAgg = ag ∧ dp ks a.cells ∧ dp ks b.cells := by exact qM) : aG Γ draw (⟨.eqA false ag ks x y, g⟩ :: r) env rs nx m K :=
 bI rfl hg _ (fun hf => by simp only [aA.cV, hx, hy]; exact ⟨kx hf, ky hf, h1 hf⟩) (fun hf => by simp only [aA.val, hx, hy]; rw [hb]; rfl) (fun ha => h)
theorem BS {x y : Src} {fx fy : Bool} {ag : Bool} {ks : List CK} {a b : D} {v : Bool} (h : aG Γ draw r env (⟨f, .bool (!v)⟩ :: rs) nx m K) (hb : et a.cells b.cells = v) (hg : GF rs g f := by exact cI) (hx : ca env rs x = ⟨fx, a⟩ := by exact rfl) (hy : ca env rs y = ⟨fy, b⟩ := by exact rfl) (kx : f = true → fx = true := by exact bS) (ky : f = true → fy = true := by exact bS) (h1 : f = true → a.isAgg = ag ∧ b.isAgg = ag ∧ dp ks a.cells ∧ dp ks b.cells := by exact qM) : aG Γ draw (⟨.eqA true ag ks x y, g⟩ :: r) env rs nx m K :=
 bI rfl hg _ (fun hf => by simp only [aA.cV, hx, hy]; exact ⟨kx hf, ky hf, h1 hf⟩) (fun hf => by simp only [aA.val, hx, hy]; rw [hb]; rfl) (fun ha => h)
theorem HX {x : Src} {fx : Bool} {k k2 : IntKind} {a : Int} (v : Int) (h : aG Γ draw r env (⟨f, .int k v⟩ :: rs) nx m K) (hg : GF rs g f := by exact cI) (hx : ca env rs x = ⟨fx, .int k2 a⟩ := by exact rfl) (kx : f = true → fx = true := by exact bS) (hb : f = true → k.wrap a = v) : aG Γ draw (⟨.cvi k x, g⟩ :: r) env rs nx m K :=
 bI rfl hg _ (fun hf => by simp [aA.cV, hx, kx hf]) (fun hf => by simp only [aA.val, hx]; rw [hb hf]) (fun ha => h)
theorem cv {x : Src} {fx : Bool} {s : List UInt8} (h : (f = true → draw = false → s.length ≤ 9223372036854775807) → aG Γ draw r env (⟨f, .int .i64 s.length⟩ :: rs) nx m K) (hg : GF rs g f := by exact cI) (hx : ca env rs x = ⟨fx, .str s⟩ := by exact rfl) (kx : f = true → fx = true := by exact bS) : aG Γ draw (⟨.lenS x, g⟩ :: r) env rs nx m K :=
 bI rfl hg _ (fun hf => by simp [aA.cV, hx, kx hf]) (fun hf => by simp [aA.val, hx]) (fun ha => h (fun hf hd => by have := ha hf; subst hd; simpa [aA.xo, hx, kx hf] using this))
theorem aC {x : Src} {fx : Bool} {α : Type} {k : Nat} {q : α → D} {xs : List α} (h : (f = true → draw = false → xs.length ≤ 9223372036854775807) → aG Γ draw r env (⟨f, .int .i64 xs.length⟩ :: rs) nx m K) (hg : GF rs g f := by exact cI) (hx : ca env rs x = ⟨fx, .sl k (xs.map q)⟩ := by exact rfl) (kx : f = true → fx = true := by exact bS) : aG Γ draw (⟨.len x, g⟩ :: r) env rs nx m K :=
 bI rfl hg _ (fun hf => by simp [aA.cV, hx, kx hf]) (fun hf => by simp [aA.val, hx]) (fun ha => h (fun hf hd => by have := ha hf; subst hd; simpa [aA.xo, hx, kx hf] using this))
theorem x6 {x : Src} {fx : Bool} {l k i n : Nat} (h : (f = true → draw = false → n ≤ 9223372036854775807) → aG Γ draw r env (⟨f, .int .i64 n⟩ :: rs) nx m K) (hg : GF rs g f := by exact cI) (hx : ca env rs x = ⟨fx, .own l k i n⟩ := by exact rfl) (kx : f = true → fx = true := by exact bS) : aG Γ draw (⟨.len x, g⟩ :: r) env rs nx m K :=
 bI rfl hg _ (fun hf => by simp [aA.cV, hx, kx hf]) (fun hf => by simp [aA.val, hx]) (fun ha => h (fun hf hd => by have := ha hf; subst hd; simpa [aA.xo, hx, kx hf] using this))
theorem cz {x : Src} {fx : Bool} {l k i o : Nat} (h : aG Γ draw r env (⟨f, .ptr l k i o⟩ :: rs) nx m K) (hg : GF rs g f := by exact cI) (hx : ca env rs x = ⟨fx, .ptr l k i o⟩ := by exact rfl) (kx : f = true → fx = true := by exact bS) : aG Γ draw (⟨.nilck x, g⟩ :: r) env rs nx m K :=
 bI rfl hg _ (fun hf => by simp [aA.cV, hx, kx hf]) (fun hf => by simp [aA.val, hx]) (fun ha => h)
theorem ya {x : Src} {fx : Bool} {k i o : Nat} {es : List D} (h : aG Γ draw r env (⟨f, .ref k es i o⟩ :: rs) nx m K) (hg : GF rs g f := by exact cI) (hx : ca env rs x = ⟨fx, .ref k es i o⟩ := by exact rfl) (kx : f = true → fx = true := by exact bS) : aG Γ draw (⟨.nilck x, g⟩ :: r) env rs nx m K :=
 bI rfl hg _ (fun hf => by simp [aA.cV, hx, kx hf]) (fun hf => by simp [aA.val, hx]) (fun ha => h)
theorem HY {x : Src} {fx : Bool} {off l k i o : Nat} (h : aG Γ draw r env (⟨f, .ptr l k i (o + off)⟩ :: rs) nx m K) (hg : GF rs g f := by exact cI) (hx : ca env rs x = ⟨fx, .ptr l k i o⟩ := by exact rfl) (kx : f = true → fx = true := by exact bS) : aG Γ draw (⟨.fa off x, g⟩ :: r) env rs nx m K :=
 bI rfl hg _ (fun hf => by simp [aA.cV, hx, kx hf]) (fun hf => by simp [aA.val, hx]) (fun ha => h)
theorem ez {x : Src} {fx : Bool} {off k i o : Nat} {es : List D} (h : aG Γ draw r env (⟨f, .ref k es i (o + off)⟩ :: rs) nx m K) (hg : GF rs g f := by exact cI) (hx : ca env rs x = ⟨fx, .ref k es i o⟩ := by exact rfl) (kx : f = true → fx = true := by exact bS) : aG Γ draw (⟨.fa off x, g⟩ :: r) env rs nx m K :=
 bI rfl hg _ (fun hf => by simp [aA.cV, hx, kx hf]) (fun hf => by simp [aA.val, hx]) (fun ha => h)
theorem aP {x y : Src} {fx fy : Bool} {α : Type} {k : Nat} {q : α → D} {xs : List α} {i : Int} {kk : IntKind} (j : Nat) (h : aG Γ draw r env (⟨f, .ref k (xs.map q) j 0⟩ :: rs) nx m K) (hg : GF rs g f := by exact cI) (hx : ca env rs x = ⟨fx, .sl k (xs.map q)⟩ := by exact rfl) (hy : ca env rs y = ⟨fy, .int kk i⟩ := by exact rfl) (kx : f = true → fx = true := by exact bS) (ky : f = true → fy = true := by exact bS) (hj : f = true → i = (j : Int) := by exact tk) (hb : f = true → j < xs.length := by exact sU) : aG Γ draw (⟨.ia k x y, g⟩ :: r) env rs nx m K :=
 bI rfl hg _ (fun hf => by simp only [aA.cV, hx, hy, List.length_map]; exact ⟨kx hf, ky hf, trivial, by have := hj hf; omega, by have := hj hf; have := hb hf; omega⟩) (fun hf => by simp only [aA.val, hx, hy]; rw [hj hf]; rfl) (fun ha => h)
theorem lE {x y : Src} {fx fy : Bool} {l k i0 n : Nat} {i : Int} {kk : IntKind} (j : Nat) (h : aG Γ draw r env (⟨f, .ptr l k (i0 + j) 0⟩ :: rs) nx m K) (hg : GF rs g f := by exact cI) (hx : ca env rs x = ⟨fx, .own l k i0 n⟩ := by exact rfl) (hy : ca env rs y = ⟨fy, .int kk i⟩ := by exact rfl) (kx : f = true → fx = true := by exact bS) (ky : f = true → fy = true := by exact bS) (hj : f = true → i = (j : Int) := by exact tk) (hb : f = true → j < n := by exact sU) : aG Γ draw (⟨.ia k x y, g⟩ :: r) env rs nx m K :=
 bI rfl hg _ (fun hf => by simp only [aA.cV, hx, hy]; exact ⟨kx hf, ky hf, trivial, by have := hj hf; omega, by have := hj hf; have := hb hf; omega⟩) (fun hf => by simp only [aA.val, hx, hy]; rw [hj hf]; rfl) (fun ha => h)
theorem FD {x y : Src} {fx fy : Bool} {l k k2 n i0 o : Nat} {i : Int} {kk : IntKind} (j : Nat) (h : aG Γ draw r env (⟨f, .ptr l k2 i0 (o + j * k)⟩ :: rs) nx m K) (hg : GF rs g f := by exact cI) (hx : ca env rs x = ⟨fx, .ptr l k2 i0 o⟩ := by exact rfl) (hy : ca env rs y = ⟨fy, .int kk i⟩ := by exact rfl) (kx : f = true → fx = true := by exact bS) (ky : f = true → fy = true := by exact bS) (hj : f = true → i = (j : Int) := by exact tk) (hb : f = true → j < n := by exact sU) : aG Γ draw (⟨.iaP n k x y, g⟩ :: r) env rs nx m K :=
 bI rfl hg _ (fun hf => by simp only [aA.cV, hx, hy]; exact ⟨kx hf, ky hf, by have := hj hf; omega, by have := hj hf; have := hb hf; omega⟩) (fun hf => by simp only [aA.val, hx, hy]; rw [hj hf]; rfl) (fun ha => h)
theorem xZ {x y : Src} {fx fy : Bool} {k k2 n i0 o : Nat} {es : List D} {i : Int} {kk : IntKind} (j : Nat) (h : aG Γ draw r env (⟨f, .ref k2 es i0 (o + j * k)⟩ :: rs) nx m K) (hg : GF rs g f := by exact cI) (hx : ca env rs x = ⟨fx, .ref k2 es i0 o⟩ := by exact rfl) (hy : ca env rs y = ⟨fy, .int kk i⟩ := by exact rfl) (kx : f = true → fx = true := by exact bS) (ky : f = true → fy = true := by exact bS) (hj : f = true → i = (j : Int) := by first | exact fun _ => rfl | (intro _; omega)) (hb : f = true → j < n := by intro _; omega) : aG Γ draw (⟨.iaP n k x y, g⟩ :: r) env rs nx m K :=
 bI rfl hg _ (fun hf => by simp only [aA.cV, hx, hy]; exact ⟨kx hf, ky hf, by have := hj hf; omega, by have := hj hf; have := hb hf; omega⟩) (fun hf => by simp only [aA.val, hx, hy]; rw [hj hf]; rfl) (fun ha => h)
theorem sw {x y : Src} {fx fy : Bool} {s : List UInt8} {i : Int} {kk : IntKind} (j : Nat) (h : aG Γ draw r env (⟨f, .int .u8 (at8 s j)⟩ :: rs) nx m K) (hg : GF rs g f := by exact cI) (hx : ca env rs x = ⟨fx, .str s⟩ := by exact rfl) (hy : ca env rs y = ⟨fy, .int kk i⟩ := by exact rfl) (kx : f = true → fx = true := by exact bS) (ky : f = true → fy = true := by exact bS) (hj : f = true → i = (j : Int) := by exact tk) (hb : f = true → j < s.length := by exact sU) : aG Γ draw (⟨.ixS x y, g⟩ :: r) env rs nx m K :=
 bI rfl hg _ (fun hf => by simp only [aA.cV, hx, hy]; exact ⟨kx hf, ky hf, by have := hj hf; omega, by have := hj hf; have := hb hf; omega⟩) (fun hf => by simp only [aA.val, hx, hy]; rw [hj hf]; rfl) (fun ha => h)
theorem br {x y : Src} {fx fy : Bool} {α : Type} {k : Nat} {q : α → D} {xs : List α} {i : Int} {kk : IntKind} (h : aG Γ draw r env (⟨f, .ref k (xs.map q) i.toNat 0⟩ :: rs) nx m K) (hg : GF rs g f := by exact cI) (hx : ca env rs x = ⟨fx, .sl k (xs.map q)⟩ := by exact rfl) (hy : ca env rs y = ⟨fy, .int kk i⟩ := by exact rfl) (kx : f = true → fx = true := by exact bS) (ky : f = true → fy = true := by exact bS) (hb : f = true → 0 ≤ i ∧ i < (xs.length : Nat) := by exact Aq) : aG Γ draw (⟨.ia k x y, g⟩ :: r) env rs nx m K :=
 bI rfl hg _ (fun hf => by simp only [aA.cV, hx, hy, List.length_map]; exact ⟨kx hf, ky hf, trivial, (hb hf).1, (hb hf).2⟩) (fun hf => by simp only [aA.val, hx, hy] <;> rfl) (fun ha => h)
theorem sx {x y : Src} {fx fy : Bool} {s : List UInt8} {i : Int} {kk : IntKind} (h : aG Γ draw r env (⟨f, .int .u8 (at8 s i.toNat)⟩ :: rs) nx m K) (hg : GF rs g f := by exact cI) (hx : ca env rs x = ⟨fx, .str s⟩ := by exact rfl) (hy : ca env rs y = ⟨fy, .int kk i⟩ := by exact rfl) (kx : f = true → fx = true := by exact bS) (ky : f = true → fy = true := by exact bS) (hb : f = true → 0 ≤ i ∧ i < (s.length : Nat) := by exact Aq) : aG Γ draw (⟨.ixS x y, g⟩ :: r) env rs nx m K :=
 bI rfl hg _ (fun hf => by simp only [aA.cV, hx, hy, List.length_map]; exact ⟨kx hf, ky hf, (hb hf).1, (hb hf).2⟩) (fun hf => by simp only [aA.val, hx, hy] <;> rfl) (fun ha => h)
theorem oT {x y : Src} {fx fy : Bool} {s : List UInt8} {k2 : IntKind} {a : Int} (i : Nat) (h : aG Γ draw r env (⟨f, .str (s.drop i)⟩ :: rs) nx m K) (hg : GF rs g f := by exact cI) (hx : ca env rs x = ⟨fx, .str s⟩ := by exact rfl) (hy : ca env rs y = ⟨fy, .int k2 a⟩ := by exact rfl) (kx : f = true → fx = true := by exact bS) (ky : f = true → fy = true := by exact bS) (hi : f = true → a = (i : Int) := by exact tk) (hb : f = true → i ≤ s.length := by exact sU) : aG Γ draw (⟨.slS x (some y) none, g⟩ :: r) env rs nx m K :=
 bI rfl hg _ (fun hf => by simp only [aA.cV, Bp, dO, hx, hy]; have := hb hf; have := hi hf; refine ⟨kx hf, ky hf, trivial, ?_⟩; simp only [lG, cT, true_and, and_true, Int.ofNat_eq_natCast]; omega) (fun hf => by simp only [aA.val, dO, cT, hx, hy]; rw [hi hf]; simp) (fun ha => h)
theorem wL {x y : Src} {fx fy : Bool} {α : Type} {k : Nat} {q : α → D} {s : List α} {k2 : IntKind} {a : Int} (i : Nat) (h : aG Γ draw r env (⟨f, .sl k ((s.drop i).map q)⟩ :: rs) nx m K) (hg : GF rs g f := by exact cI) (hx : ca env rs x = ⟨fx, .sl k (s.map q)⟩ := by exact rfl) (hy : ca env rs y = ⟨fy, .int k2 a⟩ := by exact rfl) (kx : f = true → fx = true := by exact bS) (ky : f = true → fy = true := by exact bS) (hi : f = true → a = (i : Int) := by exact tk) (hb : f = true → i ≤ s.length := by exact sU) : aG Γ draw (⟨.slA k x (some y) none, g⟩ :: r) env rs nx m K :=
 bI rfl hg _ (fun hf => by simp only [aA.cV, Bp, dO, hx, hy, List.length_map]; have := hb hf; have := hi hf; refine ⟨kx hf, ky hf, trivial, trivial, ?_⟩; simp only [lG, cT, true_and, and_true, Int.ofNat_eq_natCast]; omega) (fun hf => by simp only [aA.val, dO, cT, hx, hy]; rw [hi hf]; first | (simp only [List.take_length, Int.toNat_natCast, List.map_drop]; done) | simp [List.map_drop, List.map_take]) (fun ha => h)
theorem sy {x z : Src} {fx fz : Bool} {s : List UInt8} {k3 : IntKind} {c : Int} (j : Nat) (h : aG Γ draw r env (⟨f, .str (s.take j)⟩ :: rs) nx m K) (hg : GF rs g f := by exact cI) (hx : ca env rs x = ⟨fx, .str s⟩ := by exact rfl) (hz : ca env rs z = ⟨fz, .int k3 c⟩ := by exact rfl) (kx : f = true → fx = true := by exact bS) (kz : f = true → fz = true := by exact bS) (hj : f = true → c = (j : Int) := by exact tk) (hb : f = true → j ≤ s.length := by exact sU) : aG Γ draw (⟨.slS x none (some z), g⟩ :: r) env rs nx m K :=
 bI rfl hg _ (fun hf => by simp only [aA.cV, Bp, dO, hx, hz]; have := hb hf; have := hj hf; refine ⟨kx hf, trivial, kz hf, ?_⟩; simp only [lG, cT, true_and, and_true, Int.ofNat_eq_natCast]; omega) (fun hf => by simp only [aA.val, dO, cT, hx, hz]; rw [hj hf]; simp) (fun ha => h)
theorem wK {x z : Src} {fx fz : Bool} {α : Type} {k : Nat} {q : α → D} {s : List α} {k3 : IntKind} {c : Int} (j : Nat) (h : aG Γ draw r env (⟨f, .sl k ((s.take j).map q)⟩ :: rs) nx m K) (hg : GF rs g f := by exact cI) (hx : ca env rs x = ⟨fx, .sl k (s.map q)⟩ := by exact rfl) (hz : ca env rs z = ⟨fz, .int k3 c⟩ := by exact rfl) (kx : f = true → fx = true := by exact bS) (kz : f = true → fz = true := by exact bS) (hj : f = true → c = (j : Int) := by exact tk) (hb : f = true → j ≤ s.length := by exact sU) : aG Γ draw (⟨.slA k x none (some z), g⟩ :: r) env rs nx m K :=
 bI rfl hg _ (fun hf => by simp only [aA.cV, Bp, dO, hx, hz, List.length_map]; have := hb hf; have := hj hf; refine ⟨kx hf, trivial, kz hf, trivial, ?_⟩; simp only [lG, cT, true_and, and_true, Int.ofNat_eq_natCast]; omega) (fun hf => by simp only [aA.val, dO, cT, hx, hz]; rw [hj hf]; first | (simp only [List.take_length, Int.toNat_natCast, List.map_drop]; done) | simp [List.map_drop, List.map_take]) (fun ha => h)
theorem BW {x y z : Src} {fx fy fz : Bool} {s : List UInt8} {k2 : IntKind} {a : Int} (i : Nat) {k3 : IntKind} {c : Int} (j : Nat) (h : aG Γ draw r env (⟨f, .str ((s.take j).drop i)⟩ :: rs) nx m K) (hg : GF rs g f := by exact cI) (hx : ca env rs x = ⟨fx, .str s⟩ := by exact rfl) (hy : ca env rs y = ⟨fy, .int k2 a⟩ := by exact rfl) (hz : ca env rs z = ⟨fz, .int k3 c⟩ := by exact rfl) (kx : f = true → fx = true := by exact bS) (ky : f = true → fy = true := by exact bS) (kz : f = true → fz = true := by exact bS) (hi : f = true → a = (i : Int) := by exact tk) (hj : f = true → c = (j : Int) := by exact tk) (hb : f = true → i ≤ j ∧ j ≤ s.length := by exact Aq) : aG Γ draw (⟨.slS x (some y) (some z), g⟩ :: r) env rs nx m K :=
 bI rfl hg _ (fun hf => by simp only [aA.cV, Bp, dO, hx, hy, hz]; have := hb hf; have := hi hf; have := hj hf; refine ⟨kx hf, ky hf, kz hf, ?_⟩; simp only [lG, cT, true_and, and_true, Int.ofNat_eq_natCast]; omega) (fun hf => by simp only [aA.val, dO, cT, hx, hy, hz]; rw [hi hf, hj hf]; simp) (fun ha => h)
theorem bg {x : Src} {fx : Bool} {i : Nat} {ds : List D} (v : D) (h : aG Γ draw r env (⟨f, v⟩ :: rs) nx m K) (hg : GF rs g f := by exact cI) (hx : ca env rs x = ⟨fx, .tup ds⟩ := by exact rfl) (kx : f = true → fx = true := by exact bS) (hv : f = true → ds.getD i .any = v := by exact fun _ => rfl) (hb : f = true → i < ds.length := by intro _; simp only [List.length_cons, List.length_nil]; omega) : aG Γ draw (⟨.ext x i, g⟩ :: r) env rs nx m K :=
 bI rfl hg _ (fun hf => by simp only [aA.cV, hx]; exact ⟨kx hf, hb hf⟩) (fun hf => by simp only [aA.val, hx]; exact hv hf) (fun ha => h)
theorem ll {z : List D} {ps : List (Nat × Nat × Src)} (v : List D) (h : aG Γ draw r env (⟨f, .agg v⟩ :: rs) nx m K) (hg : GF rs g f := by exact cI) (hv : f = true → rJ (ca env rs) z ps = v := by exact fun _ => rfl) (ho : f = true → tC (ca env rs) z.length ps := by exact qM) : aG Γ draw (⟨.build z ps, g⟩ :: r) env rs nx m K :=
 bI rfl hg _ (fun hf => ho hf) (fun hf => by simp only [aA.val]; rw [hv hf]) (fun _ => h)
theorem b6 {z : List D} {ps : List (Nat × Nat × Src)} (d : D) (h : aG Γ draw r env (⟨f, d⟩ :: rs) nx m K) (hg : GF rs g f := by exact cI) (hv : f = true → D.agg (rJ (ca env rs) z ps) = d := by exact fun _ => rfl) (ho : f = true → tC (ca env rs) z.length ps := by exact qM) : aG Γ draw (⟨.build z ps, g⟩ :: r) env rs nx m K :=
 bI rfl hg _ (fun hf => ho hf) (fun hf => by simp only [aA.val]; exact hv hf) (fun _ => h)
theorem Fj {e : D} {n o : Nat} {ag : Bool} (h : e.isAgg = ag) : nr e n n o ag = e := by simp [nr, h]
theorem bG {x : Src} {fx : Bool} {n l : Nat} {ag : Bool} {d : D} (h : aG Γ draw r env (⟨f, d⟩ :: rs) nx m K) (hg : GF rs g f := by exact cI) (hx : ca env rs x = ⟨fx, .ptr l n 0 0⟩ := by exact rfl) (kx : f = true → fx = true := by exact bS) (hl : f = true → look m l = some (.buf n [d]) := by exact fun _ => rfl) (ha : f = true → d.isAgg = ag := by exact fun _ => rfl) : aG Γ draw (⟨.ld n ag x, g⟩ :: r) env rs nx m K :=
 fA rfl hg _ (fun hf => by simp only [aA.cV, hx, xg, dz, hl hf]; exact ⟨kx hf, ⟨trivial, by simp⟩, by omega⟩) (fun hf => by simp only [aA.val, hx, wj, aE, hl hf, List.getD_cons_zero]; exact Fj (ha hf)) m rfl (fun ha => h)
theorem aj {x : Src} {fx : Bool} {n l k o : Nat} {ag : Bool} {d : D} (v : D) (h : aG Γ draw r env (⟨f, v⟩ :: rs) nx m K) (hg : GF rs g f := by exact cI) (hx : ca env rs x = ⟨fx, .ptr l k 0 o⟩ := by exact rfl) (kx : f = true → fx = true := by exact bS) (hl : f = true → look m l = some (.buf k [d]) := by exact fun _ => rfl) (hv : f = true → nr d k n o ag = v := by exact fun _ => rfl) (ho : o + n ≤ k := by omega) : aG Γ draw (⟨.ld n ag x, g⟩ :: r) env rs nx m K :=
 fA rfl hg _ (fun hf => by simp only [aA.cV, hx, xg, dz, hl hf]; exact ⟨kx hf, ⟨trivial, by simp⟩, ho⟩) (fun hf => by simp only [aA.val, hx, wj, aE, hl hf, List.getD_cons_zero]; exact hv hf) m rfl (fun ha => h)
theorem qt {x : Src} {fx : Bool} {α : Type} [Inhabited α] {n l k i o : Nat} {ag : Bool} {q : α → D} {xs : List α} (v : D) (h : aG Γ draw r env (⟨f, v⟩ :: rs) nx m K) (hg : GF rs g f := by exact cI) (hx : ca env rs x = ⟨fx, .ptr l k i o⟩ := by exact rfl) (kx : f = true → fx = true := by exact bS) (hl : f = true → look m l = some (.buf k (xs.map q)) := by exact fun _ => rfl) (hi : f = true → i < xs.length := by exact sU) (hv : f = true → nr (q xs[i]!) k n o ag = v := by exact fun _ => rfl) (ho : o + n ≤ k := by omega) : aG Γ draw (⟨.ld n ag x, g⟩ :: r) env rs nx m K :=
 fA rfl hg _ (fun hf => by simp only [aA.cV, hx, xg, dz, hl hf, List.length_map]; exact ⟨kx hf, ⟨trivial, by have := hi hf; omega⟩, ho⟩) (fun hf => by simp only [aA.val, hx, wj, aE, hl hf]; rw [getD_map (hi hf)]; exact hv hf) m rfl (fun ha => h)
theorem aS {x : Src} {fx : Bool} {α : Type} [Inhabited α] {n k i o : Nat} {ag : Bool} {q : α → D} {xs : List α} (v : D) (h : aG Γ draw r env (⟨f, v⟩ :: rs) nx m K) (hg : GF rs g f := by exact cI) (hx : ca env rs x = ⟨fx, .ref k (xs.map q) i o⟩ := by exact rfl) (kx : f = true → fx = true := by exact bS) (hi : f = true → i < xs.length := by exact sU) (hv : f = true → nr (q xs[i]!) k n o ag = v := by exact fun _ => rfl) (ho : o + n ≤ k := by omega) : aG Γ draw (⟨.ld n ag x, g⟩ :: r) env rs nx m K :=
 fA rfl hg _ (fun hf => by simp only [aA.cV, hx, xg, List.length_map]; exact ⟨kx hf, hi hf, ho⟩) (fun hf => by simp only [aA.val, hx, wj]; rw [getD_map (hi hf)]; exact hv hf) m rfl (fun ha => h)
theorem bH {x : Src} {fx : Bool} {n k i o : Nat} {ag : Bool} {es : List D} (v : D) (h : aG Γ draw r env (⟨f, v⟩ :: rs) nx m K) (hg : GF rs g f := by exact cI) (hx : ca env rs x = ⟨fx, .ref k es i o⟩ := by exact rfl) (kx : f = true → fx = true := by exact bS) (hi : f = true → i < es.length := by intro _; simp only [List.length_cons, List.length_nil]; omega) (hv : f = true → nr (es.getD i .any) k n o ag = v := by exact fun _ => rfl) (ho : o + n ≤ k := by omega) : aG Γ draw (⟨.ld n ag x, g⟩ :: r) env rs nx m K :=
 fA rfl hg _ (fun hf => by simp only [aA.cV, hx, xg]; exact ⟨kx hf, hi hf, ho⟩) (fun hf => by simp only [aA.val, hx, wj]; exact hv hf) m rfl (fun ha => h)
theorem x5 {x : Src} {fx : Bool} {n k i o : Nat} {ag : Bool} {es : List D} (v : D) (h : aG Γ draw r env (⟨f, v⟩ :: rs) nx m K) (hg : GF rs g f := by exact cI) (hx : ca env rs x = ⟨fx, .ref k es i o⟩ := by exact rfl) (kx : f = true → fx = true := by exact bS) (hi : f = true → i < es.length := by intro _; simp only [List.length_cons, List.length_nil]; omega) (hv : f = true → nr (es.getD i .any) k n o ag = v := by exact fun _ => rfl) (ho : o + n ≤ k := by omega) : aG Γ draw (⟨.ldI n ag x, g⟩ :: r) env rs nx m K :=
 bI rfl hg _ (fun hf => by simp only [aA.cV, hx, xg]; exact ⟨kx hf, hi hf, ho⟩) (fun hf => by simp only [aA.val, hx, wj]; exact hv hf) (fun ha => h)
theorem aZ {x : Src} {fx : Bool} {k : Nat} {d : D} {L : Nat} {m2 : List (Nat × bm)} (h : aG Γ draw r env (⟨f, .ptr L k 0 0⟩ :: rs) nx m2 K) (hg : GF rs g f := by exact cI) (hx : ca env rs x = ⟨fx, d⟩ := by exact rfl) (kx : f = true → fx = true := by exact bS) (hc : d.cells.length = k := by exact rfl) (hL : nx + rs.length = L := by exact vv) (hm : cw m L (.buf k [d]) = m2 := by simp only [cw, cg, Nat.reduceEqDiff, if_true, if_false, Nat.reduceAdd, reduceCtorEq]; exact rfl) : aG Γ draw (⟨.box k x, g⟩ :: r) env rs nx m K :=
 fA rfl hg _ (fun hf => by simp only [aA.cV, hx]; exact ⟨kx hf, hc⟩) (fun hf => by simp only [aA.val, hx, hL]) _ (by simp only [aA.bM, hx, hL]; exact hm) (fun _ => h)
theorem HZ {L : Nat} {m2 : List (Nat × bm)} (h : aG Γ draw r env (⟨f, .ptr L 2 0 0⟩ :: rs) nx m2 K) (hg : GF rs g f := by exact cI) (hL : nx + rs.length = L := by exact vv) (hm : cw m L (.bld none 0 false) = m2 := by simp only [cw, cg, Nat.reduceEqDiff, if_true, if_false, Nat.reduceAdd, reduceCtorEq]; exact rfl) : aG Γ draw (⟨.mkB, g⟩ :: r) env rs nx m K :=
 fA rfl hg _ (fun _ => trivial) (fun hf => by simp only [aA.val, hL]) _ (by simp only [aA.bM, hL]; exact hm) (fun _ => h)
theorem yT {x : Src} {fx : Bool} {s : List UInt8} {L : Nat} {m2 : List (Nat × bm)} (h : aG Γ draw r env (⟨f, .it L⟩ :: rs) nx m2 K) (hg : GF rs g f := by exact cI) (hx : ca env rs x = ⟨fx, .str s⟩ := by exact rfl) (kx : f = true → fx = true := by exact bS) (hL : nx + rs.length = L := by exact vv) (hm : cw m L (.iter s 0) = m2 := by simp only [cw, cg, Nat.reduceEqDiff, if_true, if_false, Nat.reduceAdd, reduceCtorEq]; exact rfl) : aG Γ draw (⟨.rng x, g⟩ :: r) env rs nx m K :=
 fA rfl hg _ (fun hf => by simp only [aA.cV, hx]; exact ⟨kx hf, trivial⟩) (fun hf => by simp only [aA.val, hx, hL]) _ (by simp only [aA.bM, hx, hL]; exact hm) (fun _ => h)
theorem dK {k n : Nat} {z : D} {ps : List (Nat × Src)} {L : Nat} {m2 : List (Nat × bm)} (es : List D) (h : aG Γ draw r env (⟨f, .own L k 0 n⟩ :: rs) nx m2 K) (hg : GF rs g f := by exact cI) (he : iA (ca env rs) (List.replicate n z) ps = es := by exact rfl) (ho : f = true → nS (ca env rs) k n ps := by exact qM) (hz : z.cells.length = k := by exact rfl) (hL : nx + rs.length = L := by exact vv) (hm : cw m L (.buf k es) = m2 := by simp only [cw, cg, Nat.reduceEqDiff, if_true, if_false, Nat.reduceAdd, reduceCtorEq]; exact rfl) : aG Γ draw (⟨.bsl k z n ps, g⟩ :: r) env rs nx m K :=
 fA rfl hg _ (fun hf => ⟨hz, ho hf⟩) (fun hf => by simp only [aA.val, hL]) _ (by simp only [aA.bM, he, hL]; exact hm) (fun _ => h)
theorem H2 {k : Nat} {z : D} {x y : Src} {k1 k2 : IntKind} {a c : Int} {L : Nat} {m2 : List (Nat × bm)} (n : Nat) (h : aG Γ draw r env (⟨true, .own L k 0 n⟩ :: rs) nx m2 K) (hx : ca env rs x = ⟨true, .int k1 a⟩ := by exact rfl) (hy : ca env rs y = ⟨true, .int k2 c⟩ := by exact rfl) (hn : a = (n : Int) := by first | exact rfl | omega) (hc : a ≤ c ∧ c ≤ 1073741824 := by constructor <;> omega) (hz : z.cells.length = k := by exact rfl) (hL : nx + rs.length = L := by exact vv) (hm : cw m L (.buf k (List.replicate n z)) = m2 := by simp only [cw, cg, Nat.reduceEqDiff, if_true, if_false, Nat.reduceAdd, reduceCtorEq]; exact rfl) : aG Γ draw (⟨.mks k z x y, none⟩ :: r) env rs nx m K :=
 n3 rfl _ (by simp only [aA.cV, hx, hy]; exact ⟨trivial, trivial, hz, by omega, hc.1, hc.2⟩) (by simp only [aA.val, hx, hL, D.nat, hn]; rfl) _ (by simp only [aA.bM, hx, hL, D.nat, hn]; exact hm) (fun _ => h)
theorem aM {n l k o : Nat} {x y : Src} {d v : D} {m2 : List (Nat × bm)} (e : D) (h : aG Γ draw r env (⟨true, .any⟩ :: rs) nx m2 K) (hx : ca env rs x = ⟨true, .ptr l k 0 o⟩ := by exact rfl) (hy : ca env rs y = ⟨true, v⟩ := by exact rfl) (hl : look m l = some (.buf k [d]) := by exact rfl) (hc : v.cells.length = n := by exact rfl) (he : sJ d k n o v = e := by exact rfl) (ho : o + n ≤ k := by omega) (hm : cw m l (.buf k [e]) = m2 := by simp only [cw, cg, Nat.reduceEqDiff, if_true, if_false, Nat.reduceAdd, reduceCtorEq]; exact rfl) : aG Γ draw (⟨.st n x y, none⟩ :: r) env rs nx m K :=
 n3 rfl _ (by simp only [aA.cV, hx, hy, dz, hl]; exact ⟨trivial, trivial, hc, ⟨trivial, by simp⟩, ho⟩) rfl _ (by simp only [aA.bM, hx, hy, aE, hl, List.getD_cons_zero, List.set_cons_zero, he]; exact hm) (fun _ => h)
theorem yU {n l k i o : Nat} {x y : Src} {v : D} {es : List D} {m2 : List (Nat × bm)} (es2 : List D) (h : aG Γ draw r env (⟨true, .any⟩ :: rs) nx m2 K) (hx : ca env rs x = ⟨true, .ptr l k i o⟩ := by exact rfl) (hy : ca env rs y = ⟨true, v⟩ := by exact rfl) (hl : look m l = some (.buf k es) := by exact rfl) (hi : i < es.length) (hc : v.cells.length = n := by exact rfl) (he : es.set i (sJ (es.getD i .any) k n o v) = es2) (ho : o + n ≤ k := by omega) (hm : cw m l (.buf k es2) = m2 := by simp only [cw, cg, Nat.reduceEqDiff, if_true, if_false, Nat.reduceAdd, reduceCtorEq]; exact rfl) : aG Γ draw (⟨.st n x y, none⟩ :: r) env rs nx m K :=
 n3 rfl _ (by simp only [aA.cV, hx, hy, dz, hl]; exact ⟨trivial, trivial, hc, ⟨trivial, by omega⟩, ho⟩) rfl _ (by simp only [aA.bM, hx, hy, aE, hl, he]; exact hm) (fun _ => h)
def yp (m : List (Nat × bm)) (k : Nat) (d : D) (ys : List D) : Prop := uM m k d ∧ lI m d = ys
theorem yp.sl {k : Nat} {es : List D} : yp m k (.sl k es) es := ⟨rfl, rfl⟩
theorem yp.av {k : Nat} : yp m k .av [] := ⟨trivial, rfl⟩
theorem yp.own {l k i n : Nat} {es : List D} (hl : look m l = some (.buf k es)) (hb : i + n ≤ es.length) : yp m k (.own l k i n) ((es.drop i).take n) := ⟨⟨rfl, by simp only [dz, hl]; exact ⟨trivial, hb⟩⟩, by simp only [lI, aE, hl]⟩
theorem yp.all {l k n : Nat} {es : List D} (hl : look m l = some (.buf k es)) (hb : n = es.length) : yp m k (.own l k 0 n) es := by
 have := yp.own (i := 0) (n := n) hl (by omega)
 simpa [hb] using this
theorem yp.str {s : List UInt8} : yp m 1 (.str s) (s.map fun b => .int .u8 b.toNat) := ⟨rfl, rfl⟩
theorem En {k l i a n : Nat} {x y : Src} {d : D} {xs ys : List D} {L : Nat} {m2 : List (Nat × bm)} (zs : List D) (h : aG Γ draw r env (⟨true, .own L k 0 n⟩ :: rs) nx m2 K) (hx : ca env rs x = ⟨true, .own l k i a⟩ := by exact rfl) (hy : ca env rs y = ⟨true, d⟩ := by exact rfl) (hl : look m l = some (.buf k xs) := by exact rfl) (ha : i + a ≤ xs.length) (he : yp m k d ys) (hz : (xs.drop i).take a ++ ys = zs) (hn : a + ys.length = n) (hb : n ≤ 1073741824 := by omega) (hL : nx + rs.length = L := by exact vv) (hm : cw (cg m l) L (.buf k zs) = m2 := by simp only [cw, cg, Nat.reduceEqDiff, if_true, if_false, Nat.reduceAdd, reduceCtorEq]; exact rfl) : aG Γ draw (⟨.app k x y, none⟩ :: r) env rs nx m K :=
 n3 rfl _ (by simp only [aA.cV, hx, hy, he.2, dz, hl, hn]; exact ⟨trivial, trivial, he.1, trivial, ⟨trivial, ha⟩, hb⟩) (by simp only [aA.val, hx, hy, he.2, hn, hL]) _ (by simp only [aA.bM, hx, hy, he.2, aE, hl, hz, hL]; exact hm) (fun _ => h)
theorem iu {α : Type} {q : α → D} {xs : List α} {e : α} {k l ly : Nat} {x y : Src} {L : Nat} {m2 : List (Nat × bm)} (h : aG Γ draw r env (⟨true, .own L k 0 (xs ++ [e]).length⟩ :: rs) nx m2 K) (hx : ca env rs x = ⟨true, .own l k 0 xs.length⟩ := by exact rfl) (hy : ca env rs y = ⟨true, .own ly k 0 1⟩ := by exact rfl) (hl : look m l = some (.buf k (xs.map q)) := by exact rfl) (he : look m ly = some (.buf k [q e]) := by exact rfl) (hb : xs.length + 1 ≤ 1073741824 := by omega) (hL : nx + rs.length = L := by exact vv) (hm : cw (cg m l) L (.buf k ((xs ++ [e]).map q)) = m2 := by simp only [cw, cg, Nat.reduceEqDiff, if_true, if_false, Nat.reduceAdd, reduceCtorEq]; exact rfl) : aG Γ draw (⟨.app k x y, none⟩ :: r) env rs nx m K :=
 En (zs := (xs ++ [e]).map q) (hx := hx) (hy := hy) (hl := hl) (ha := by simp) (he := yp.all (es := [q e]) he rfl) (hz := by rw [List.drop_zero, List.take_of_length_le (by simp)]; simp) (hn := by simp) (hb := by simp; omega) (hL := hL) (hm := hm) (h := h)
theorem vi {x : Src} {l pos : Nat} {s : List UInt8} {m2 : List (Nat × bm)} (c w : Nat) (h : aG Γ draw r env (⟨true, .tup [.bool true, .int .i64 pos, .int .i32 c]⟩ :: rs) nx m2 K) (hx : ca env rs x = ⟨true, .it l⟩ := by exact rfl) (hl : look m l = some (.iter s pos) := by exact rfl) (hp : pos < s.length) (hc : pz s pos = (c, w)) (hm : cw m l (.iter s (pos + w)) = m2 := by simp only [cw, cg, Nat.reduceEqDiff, if_true, if_false, Nat.reduceAdd, reduceCtorEq]; exact rfl) : aG Γ draw (⟨.sW x, none⟩ :: r) env rs nx m K :=
 n3 rfl _ (by simp only [aA.cV, hx, hl]; exact ⟨trivial, trivial⟩) (by simp only [aA.val, hx, hl, hc, hp, decide_true, cond_true]) _ (by simp only [aA.bM, hx, hl, hc, hp, decide_true, cond_true]; exact hm) (fun _ => h)
theorem vg {x : Src} {l pos : Nat} {s : List UInt8} (h : aG Γ draw r env (⟨true, .tup [.bool false]⟩ :: rs) nx m K) (hx : ca env rs x = ⟨true, .it l⟩ := by exact rfl) (hl : look m l = some (.iter s pos) := by exact rfl) (hp : ¬ pos < s.length) : aG Γ draw (⟨.sW x, none⟩ :: r) env rs nx m K :=
 n3 rfl _ (by simp only [aA.cV, hx, hl]; exact ⟨trivial, trivial⟩) (by simp only [aA.val, hx, hl, hp, decide_false, cond_false]) _ (by simp only [aA.bM, hx, hl, hp, decide_false, cond_false]) (fun _ => h)
theorem ay {n : Nat} {args : List Src} {sh : List (List Sh)} {as : List D} {v : D} (h : aG Γ draw r env (⟨f, v⟩ :: rs) nx m K) (hg : GF rs g f := by exact cI) (hc : Γ.pre n as ∧ Γ.val n as = v) (ha : f = true → jk m sh (eB (ca env rs) args) = as := by exact fun _ => rfl) (ho : f = true → rb (ca env rs) args := by exact qM) (hp : f = true → fV m sh (eB (ca env rs) args) := by exact qM) (hk : f = true → nL (eB (ca env rs) args) v = true := by exact fun _ => rfl) : aG Γ draw (⟨.call n args sh, g⟩ :: r) env rs nx m K :=
 fA rfl hg _ (fun hf => by simp only [aA.cV, (cy _ _ _).1, ha hf, hc.2]; exact ⟨ho hf, (cy _ _ _).2.2 (hp hf), hc.1, hk hf⟩) (fun hf => by simp only [aA.val, (cy _ _ _).1, ha hf, hc.2]) m rfl (fun _ => h)
theorem jN {n : Nat} {args : List Src} {sh : List (List Sh)} {as : List D} {v : D} (h : aG Γ draw r env (⟨f, v⟩ :: rs) nx m K) (hg : GF rs g f := by exact cI) (hc : f = true → Γ.pre n as ∧ Γ.val n as = v) (ha : f = true → jk m sh (eB (ca env rs) args) = as := by exact fun _ => rfl) (ho : f = true → rb (ca env rs) args := by exact qM) (hp : f = true → fV m sh (eB (ca env rs) args) := by exact qM) (hk : f = true → nL (eB (ca env rs) args) v = true := by exact fun _ => rfl) : aG Γ draw (⟨.call n args sh, g⟩ :: r) env rs nx m K :=
 fA rfl hg _ (fun hf => by simp only [aA.cV, (cy _ _ _).1, ha hf, (hc hf).2]; exact ⟨ho hf, (cy _ _ _).2.2 (hp hf), (hc hf).1, hk hf⟩) (fun hf => by simp only [aA.val, (cy _ _ _).1, ha hf, (hc hf).2]) m rfl (fun _ => h)
theorem ve {n : Nat} {x : Src} {fx : Bool} {caps : List D} {args : List Src} {sh : List (List Sh)} {as : List D} {v : D} (h : aG Γ draw r env (⟨f, v⟩ :: rs) nx m K) (hg : GF rs g f := by exact cI) (hx : ca env rs x = ⟨fx, .fn n caps⟩ := by exact rfl) (kx : f = true → fx = true := by exact bS) (hb : n < 1000000 := by decide) (hc : f = true → Γ.pre n as ∧ Γ.val n as = v) (ha : f = true → jk m sh (eB (ca env rs) args ++ caps) = as := by exact fun _ => rfl) (ho : f = true → rb (ca env rs) args := by exact qM) (hp : f = true → fV m sh (eB (ca env rs) args ++ caps) := by exact qM) (hk : f = true → nL (eB (ca env rs) args ++ caps) v = true := by exact fun _ => rfl) : aG Γ draw (⟨.callv x args sh, g⟩ :: r) env rs nx m K :=
 fA rfl hg _ (fun hf => by simp only [aA.cV, hx, (cy _ _ _).1, ha hf, (hc hf).2]; exact ⟨kx hf, ho hf, hb, (cy _ _ _).2.2 (hp hf), (hc hf).1, hk hf⟩) (fun hf => by simp only [aA.val, hx, (cy _ _ _).1, ha hf, (hc hf).2]) m rfl (fun _ => h)
theorem H0 {n : Nat} {caps : List Src} (cs : List D) (h : aG Γ draw r env (⟨f, .fn n cs⟩ :: rs) nx m K) (hg : GF rs g f := by exact cI) (hc : f = true → eB (ca env rs) caps = cs := by exact fun _ => rfl) (ho : f = true → rb (ca env rs) caps := by exact qM) : aG Γ draw (⟨.mkf n caps, g⟩ :: r) env rs nx m K :=
 bI rfl hg _ (fun hf => ho hf) (fun hf => by simp only [aA.val, hc hf]) (fun _ => h)
theorem iM {n l k : Nat} {x : Src} {args : List Src} {sh : List (List Sh)} {d v e : D} {as : List D} {m2 : List (Nat × bm)} (h : aG Γ draw r env (⟨true, v⟩ :: rs) nx m2 K) (hx : ca env rs x = ⟨true, .ptr l k 0 0⟩ := by exact rfl) (hl : look m l = some (.buf k [d]) := by exact rfl) (hd : d.aL = true := by exact rfl) (hc : Γ.fp n d as ∧ Γ.fv n d as = v ∧ Γ.fs n d as = e) (ha : jk [] sh (eB (ca env rs) args) = as := by exact rfl) (ho : rb (ca env rs) args := by repeat' first | exact trivial | exact rfl | refine And.intro ?_ ?_ | decide) (hn : aH (eB (ca env rs) args) = true := by exact rfl) (hm : cw m l (.buf k [e]) = m2 := by simp only [cw, cg, Nat.reduceEqDiff, if_true, if_false, Nat.reduceAdd, reduceCtorEq]; exact rfl) : aG Γ draw (⟨.callF n x args sh, none⟩ :: r) env rs nx m K :=
 n3 rfl _ (by simp only [aA.cV, hx, dz, aE, hl, List.getD_cons_zero, (cy _ _ _).1, ha]; exact ⟨trivial, ho, hn, trivial, trivial, ⟨trivial, by simp⟩, by simp, hd, hc.1⟩) (by simp only [aA.val, hx, aE, hl, List.getD_cons_zero, (cy _ _ _).1, ha, hc.2.1]) _ (by simp only [aA.bM, hx, aE, hl, List.getD_cons_zero, (cy _ _ _).1, ha, hc.2.2]; exact hm) (fun _ => h)
end
end Go.Abs
end
section
namespace Go.Abs
abbrev aq := List UInt8
structure dP where
 major : Int
 minor : Int
 patch : Int
 pre : aq
 build : aq
 deriving Inhabited, DecidableEq
def dP.D (v : dP) : D := .agg [.int .i64 v.major, .int .i64 v.minor, .int .i64 v.patch, .str v.pre, .str v.build]
structure ph where
 name : aq
 v : dP
 shelf : aq
 sum : Int
 feats : List aq
 deriving Inhabited, DecidableEq
def ph.D (x : ph) : D := .agg [.str x.name, .int .i64 x.v.major, .int .i64 x.v.minor, .int .i64 x.v.patch, .str x.v.pre, .str x.v.build, .str x.shelf, .int .u64 x.sum, .sl 1 (x.feats.map D.str)]
structure Env where
 e0 : aq
 e1 : aq
 e2 : aq
 deriving Inhabited, DecidableEq
def Env.D (e : Env) : D := .agg [.str e.e0, .str e.e1, .str e.e2]
structure vw where
 env : Env
 lines : List ph
 deriving Inhabited, DecidableEq
def vw.D (l : vw) : D := .agg [.str l.env.e0, .str l.env.e1, .str l.env.e2, .sl 9 (l.lines.map ph.D)]
end Go.Abs
namespace Go.Abs
theorem oD (a b : List UInt8) : Fc (.str a) (.str b) = decide (a = b) := ot a b
theorem qT (k k2 : IntKind) (a b : Int) : Fc (.int k a) (.int k2 b) = decide (a = b) := rfl
theorem dP.eq (a b : dP) : et (dP.D a).cells (dP.D b).cells = decide (a = b) := by
 obtain ⟨a1, a2, a3, a4, a5⟩ := a
 obtain ⟨b1, b2, b3, b4, b5⟩ := b
 simp only [dP.D, D.cells, et, oD, qT, dP.mk.injEq, Bool.and_true]
 simp only [Bool.decide_and]
theorem Env.eq (a b : Env) : et (Env.D a).cells (Env.D b).cells = decide (a = b) := by
 obtain ⟨a1, a2, a3⟩ := a
 obtain ⟨b1, b2, b3⟩ := b
 simp only [Env.D, D.cells, et, oD, qT, Env.mk.injEq, Bool.and_true]
 simp only [Bool.decide_and]
theorem dP.inj {a b : dP} (h : dP.D a = dP.D b) : a = b := by
 obtain ⟨a1, a2, a3, a4, a5⟩ := a
 obtain ⟨b1, b2, b3, b4, b5⟩ := b
 simp only [dP.D, D.agg.injEq, List.cons.injEq, D.int.injEq, D.str.injEq, true_and, and_true] at h
 simp [h]
theorem Env.inj {a b : Env} (h : Env.D a = Env.D b) : a = b := by
 obtain ⟨a1, a2, a3⟩ := a
 obtain ⟨b1, b2, b3⟩ := b
 simp only [Env.D, D.agg.injEq, List.cons.injEq, D.int.injEq, D.str.injEq, true_and, and_true] at h
 simp [h]
theorem map_inj {α : Type} {q : α → D} (hq : ∀ a b, q a = q b → a = b) : ∀ {xs ys : List α}, xs.map q = ys.map q → xs = ys
 | [], [], _ => rfl
 | [], _ :: _, h => by simp at h
 | _ :: _, [], h => by simp at h
 | a :: r, b :: s, h => by
  simp only [List.map_cons, List.cons.injEq] at h
  rw [hq a b h.1, map_inj hq h.2]
theorem str_inj (a b : List UInt8) (h : D.str a = D.str b) : a = b := by simpa using h
theorem ph.inj {a b : ph} (h : ph.D a = ph.D b) : a = b := by
 obtain ⟨a1, ⟨v1, v2, v3, v4, v5⟩, a2, a3, a4⟩ := a
 obtain ⟨b1, ⟨w1, w2, w3, w4, w5⟩, b2, b3, b4⟩ := b
 simp only [ph.D, D.agg.injEq, List.cons.injEq, D.int.injEq, D.str.injEq, D.sl.injEq, true_and, and_true] at h
 have := map_inj str_inj h.2.2.2.2.2.2.2.2
 simp [h, this]
theorem vw.inj {a b : vw} (h : vw.D a = vw.D b) : a = b := by
 obtain ⟨⟨a1, a2, a3⟩, a4⟩ := a
 obtain ⟨⟨b1, b2, b3⟩, b4⟩ := b
 simp only [vw.D, D.agg.injEq, List.cons.injEq, D.str.injEq, D.sl.injEq, true_and, and_true] at h
 have := map_inj (fun _ _ => ph.inj) h.2.2.2
 simp [h, this]
end Go.Abs
end
section
namespace Go.Abs
def allI (p : Nat → Bool) : Nat → Nat → Bool
 | _, 0 => true
 | i, k + 1 => p i && allI p (i + 1) k
def bO (p : Nat → Bool) (i n : Nat) : Bool := allI p i (n - i)
theorem aD {p : Nat → Bool} {i n : Nat} (h : i < n) : bO p i n = (p i && bO p (i + 1) n) := by
 unfold bO
 rw [show n - i = (n - (i + 1)) + 1 by omega]
 rfl
theorem bD {p : Nat → Bool} {i n : Nat} (h : n ≤ i) : bO p i n = true := by
 unfold bO
 rw [show n - i = 0 by omega]
 rfl
theorem vH {p : Nat → Bool} : ∀ {k i : Nat}, allI p i k = true ↔ ∀ j, i ≤ j → j < i + k → p j = true
 | 0, i => by simp [allI]; intro j h1 h2; omega
 | k + 1, i => by
  simp only [allI, Bool.and_eq_true, vH (k := k)]
  constructor
  ·rintro ⟨h1, h2⟩ j hj1 hj2
   rcases Nat.eq_or_lt_of_le hj1 with h | h
   ·exact h ▸ h1
   ·exact h2 j h (by omega)
  ·intro h
   exact ⟨h i (Nat.le_refl _) (by omega), fun j h1 h2 => h j (by omega) (by omega)⟩
theorem en {p : Nat → Bool} {i n : Nat} : bO p i n = true ↔ ∀ j, i ≤ j → j < n → p j = true := by
 unfold bO
 rw [vH]
 constructor
 ·intro h j h1 h2; exact h j h1 (by omega)
 ·intro h j h1 h2; exact h j h1 (by omega)
end Go.Abs
namespace Go.Abs
theorem aY {a a' b b' : D} (h1 : a = a') (h2 : b = b') : D.tup [a, b] = D.tup [a', b'] := by rw [h1, h2]
theorem j0 {a a' b b' c c' : D} (h1 : a = a') (h2 : b = b') (h3 : c = c') : D.tup [a, b, c] = D.tup [a', b', c'] := by rw [h1, h2, h3]
end Go.Abs
namespace Go.Abs
end Go.Abs
namespace Go.Abs
theorem oA (s : aq) (pos : Nat) (h : pos < s.length) : ∃ c w, pz s pos = (c, w) ∧ 1 ≤ w ∧ ((w = 1 ∧ (c : Int) = at8 s pos ∧ c < 128) ∨ (128 ≤ c ∧ 128 ≤ at8 s pos)) := by
 refine ⟨(pz s pos).1, (pz s pos).2, rfl, ?_⟩
 have e : pz s pos = Lib.decodeN (s.length - pos) (s.getD pos 0).toNat (s.getD (pos + 1) 0).toNat (s.getD (pos + 2) 0).toNat (s.getD (pos + 3) 0).toNat := Lib.decode_N ⟨⟨s⟩⟩ pos
 rw [e]
 unfold at8
 generalize (s.getD pos 0).toNat = b0
 generalize (s.getD (pos + 1) 0).toNat = b1
 generalize (s.getD (pos + 2) 0).toNat = b2
 generalize (s.getD (pos + 3) 0).toNat = b3
 generalize s.length - pos = n
 by_cases hb : b0 < 128
 ·unfold Lib.decodeN
  rw [if_pos hb]
  exact ⟨Nat.le_refl _, .inl ⟨rfl, rfl, hb⟩⟩
 ·unfold Lib.decodeN
  rw [if_neg hb]
  have h2 : (128 : Int) ≤ (b0 : Int) := by omega
  repeat' split
  all_goals exact ⟨by omega, .inr ⟨by simp only; omega, h2⟩⟩
end Go.Abs
namespace Go.Abs
theorem vu {α : Type} {q : α → D} {xs : List α} {m : List (Nat × bm)} {l : Nat} (hq : ∀ x, xV m [.a] (q x) = q x) (hl : look m l = some (.buf 1 (xs.map q))) : xV m [.sl 1 [.a]] (.own l 1 0 xs.length) = .sl 1 (xs.map q) := by
 show D.sl 1 _ = _
 simp only [aE, hl, List.drop_zero, aO, List.map_map]
 congr 1
 apply List.map_congr_left
 intro x _
 have := hq x
 simp only [Function.comp]
 generalize q x = d at this
 cases d <;> exact this
theorem sT {α : Type} {q : α → D} {xs : List α} {m : List (Nat × bm)} {l : Nat} (hq : ∀ x, Eu m [.a] (q x)) (hl : look m l = some (.buf 1 (xs.map q))) : Eu m [.sl 1 [.a]] (.own l 1 0 xs.length) := by
 simp only [Eu, FV, FU]
 refine ⟨by simp [dz, hl], ?_⟩
 simp only [aE, hl, List.drop_zero, aO]
 intro e he
 obtain ⟨x, _, rfl⟩ := List.mem_map.1 he
 have := hq x
 generalize q x = d at this
 cases d <;> exact this
end Go.Abs
end
namespace Go.Abs
def gz (c : Int) : Bool := decide (97 ≤ c) && decide (c ≤ 122)
def bc (c : Int) : Bool := decide (48 ≤ c) && decide (c ≤ 57)
def uq (c : Int) : Bool := gz c || bc c || decide (c = 95)
def bZ (s : aq) : Bool := decide (1 ≤ s.length) && decide (s.length ≤ 12) && bO (fun i => uq (at8 s i)) 0 s.length
def nch (s : aq) (i : Nat) : Bool := (gz (at8 s i) || bc (at8 s i) || decide (at8 s i = 45)) && !(decide (at8 s i = 45) && decide (at8 s (i - 1) = 45))
def eW (s : aq) : Bool := decide (1 ≤ s.length) && decide (s.length ≤ 16) && gz (at8 s 0) && !decide (at8 s (s.length - 1) = 45) && bO (nch s) 1 s.length
def kf (s : aq) (i : Nat) : Bool := gz (at8 s i) || (bc (at8 s i) && !decide (i = 0)) || (decide (at8 s i = 45) && !decide (i = 0) && !decide (i = s.length - 1) && !decide (at8 s (i - 1) = 45))
theorem Dp (s : aq) (h1 : 1 ≤ s.length) (h2 : s.length ≤ 16) : eW s = bO (kf s) 0 s.length := by
 rw [Bool.eq_iff_iff]
 simp only [eW, decide_eq_true h1, decide_eq_true h2, Bool.true_and, Bool.and_eq_true, Bool.not_eq_true', decide_eq_false_iff_not, en]
 constructor
 ·rintro ⟨⟨h3, h4⟩, h5⟩ j _ hj
  rcases Nat.eq_zero_or_pos j with rfl | hp
  ·simp [kf, h3]
  ·have := h5 j hp hj
   simp only [nch, Bool.and_eq_true, Bool.or_eq_true, Bool.not_eq_true', Bool.and_eq_false_iff, decide_eq_true_eq, decide_eq_false_iff_not] at this
   simp only [kf, Bool.and_eq_true, Bool.or_eq_true, Bool.not_eq_true', decide_eq_true_eq, decide_eq_false_iff_not]
   rcases this with ⟨(h6 | h6) | h6, h7⟩
   ·exact Or.inl (Or.inl h6)
   ·exact Or.inl (Or.inr ⟨h6, by omega⟩)
   ·refine Or.inr ⟨⟨⟨h6, by omega⟩, ?_⟩, ?_⟩
    ·rintro rfl; exact h4 h6
    ·rcases h7 with h7 | h7
     ·exact absurd h6 h7
     ·exact h7
 ·intro h
  have h0 := h 0 (by omega) (by omega)
  have hlow : gz (at8 s 0) = true := by simpa [kf] using h0
  refine ⟨⟨hlow, ?_⟩, fun j hj1 hj2 => ?_⟩
  ·intro he
   have hl := h (s.length - 1) (by omega) (by omega)
   rcases Nat.eq_or_lt_of_le h1 with e | e
   ·rw [← e] at he; simp only [Nat.sub_self] at he
    simp only [gz, Bool.and_eq_true, decide_eq_true_eq] at hlow
    omega
   ·simp only [kf, he, gz, bc] at hl
    simp at hl
  ·have := h j (by omega) hj2
   simp only [kf, Bool.and_eq_true, Bool.or_eq_true, Bool.not_eq_true', decide_eq_true_eq, decide_eq_false_iff_not] at this
   simp only [nch, Bool.and_eq_true, Bool.or_eq_true, Bool.not_eq_true', Bool.and_eq_false_iff, decide_eq_true_eq, decide_eq_false_iff_not]
   rcases this with (h6 | h6) | h6
   ·refine ⟨Or.inl (Or.inl h6), Or.inl ?_⟩
    simp only [gz, Bool.and_eq_true, decide_eq_true_eq] at h6; omega
   ·refine ⟨Or.inl (Or.inr h6.1), Or.inl ?_⟩
    have := h6.1
    simp only [bc, Bool.and_eq_true, decide_eq_true_eq] at this; omega
   ·exact ⟨Or.inr h6.1.1.1, Or.inr h6.2⟩
def dy (s : aq) : Nat := s.foldl (fun n b => n * 10 + (b.toNat - 48)) 0
def gA (s : aq) : Bool := decide (1 ≤ s.length) && decide (s.length ≤ 9) && !(decide (1 < s.length) && decide (at8 s 0 = 48)) && bO (fun i => bc (at8 s i)) 0 s.length && decide (dy s ≤ 9999)
def dx (s : aq) : Int := if gA s = true then (dy s : Int) else 0
theorem oZ (s : aq) (i : Nat) (h : i < s.length) : s.take (i + 1) = s.take i ++ [s.getD i 0] := by
 rw [List.take_succ]; simp [h]
theorem wz (s : aq) (i : Nat) (h : i < s.length) : dy (s.take (i + 1)) = dy (s.take i) * 10 + ((at8 s i).toNat - 48) := by
 rw [oZ s i h]; simp [dy, List.foldl_append, at8]
theorem zS (s : aq) : dy s + 23 ≤ 23 * 10 ^ s.length := by
 have : ∀ (s : aq) (n k : Nat), n + 23 ≤ 23 * 10 ^ k → s.foldl (fun n b => n * 10 + (b.toNat - 48)) n + 23 ≤ 23 * 10 ^ (k + s.length) := by
  intro s
  induction s with
  | nil => intro n k h; simpa using h
  | cons b r ih =>
   intro n k h
   have hb := b.toNat_lt
   have := ih (n * 10 + (b.toNat - 48)) (k + 1) (by rw [Nat.pow_succ]; omega)
   simp only [List.foldl_cons, List.length_cons]
   rw [show k + (r.length + 1) = k + 1 + r.length by omega]
   exact this
 have := this s 0 0 (by simp)
 simpa [dy] using this
theorem uW (s : aq) (i : Nat) (h : i ≤ 9) : dy (s.take i) ≤ 23000000000 := by
 have h1 := zS (s.take i)
 have h2 : (s.take i).length ≤ 9 := by simp; omega
 have h3 : 10 ^ (s.take i).length ≤ 10 ^ 9 := Nat.pow_le_pow_right (by omega) h2
 omega
theorem wy (s : aq) : ∀ n : Nat, s.foldl (fun n b => n * 10 + (b.toNat - 48)) n = n * 10 ^ s.length + dy s := by
 unfold dy
 induction s with
 | nil => intro n; simp
 | cons b r ih =>
  intro n
  simp only [List.foldl_cons, List.length_cons]
  rw [ih, ih (0 * 10 + (b.toNat - 48)), Nat.pow_succ]
  simp only [Nat.zero_mul, Nat.zero_add, Nat.add_mul]
  rw [Nat.mul_assoc n 10, Nat.mul_comm 10]
  omega
theorem qp (b : UInt8) (r : aq) : dy (b :: r) = (b.toNat - 48) * 10 ^ r.length + dy r := by
 have := wy r (0 * 10 + (b.toNat - 48))
 simp only [dy, List.foldl_cons] at this ⊢
 rw [this]; simp
theorem qd {b : UInt8} {r : aq} (h : bO (fun i => bc (at8 (b :: r) i)) 0 (b :: r).length = true) : bc b.toNat = true ∧ bO (fun i => bc (at8 r i)) 0 r.length = true := by
 rw [en] at h
 refine ⟨by simpa [at8] using h 0 (by omega) (by simp), ?_⟩
 rw [en]
 intro j _ hj
 simpa [at8] using h (j + 1) (by omega) (by simp; omega)
theorem tT : ∀ (s : aq), bO (fun i => bc (at8 s i)) 0 s.length = true → dy s < 10 ^ s.length
 | [], _ => by simp [dy]
 | b :: r, h => by
  obtain ⟨h1, h2⟩ := qd h
  have := tT r h2
  rw [qp, List.length_cons, Nat.pow_succ]
  simp only [bc, Bool.and_eq_true, decide_eq_true_eq] at h1
  have h3 : b.toNat - 48 ≤ 9 := by omega
  have := Nat.mul_le_mul_right (10 ^ r.length) h3
  omega
theorem zR {b : UInt8} {r : aq} (h : 49 ≤ b.toNat) : 10 ^ r.length ≤ dy (b :: r) := by
 rw [qp]
 have := Nat.mul_le_mul_right (10 ^ r.length) (show 1 ≤ b.toNat - 48 by omega)
 omega
theorem xT (s : aq) : gA s = (decide (1 ≤ s.length) && decide (s.length ≤ 4) && !(decide (1 < s.length) && decide (at8 s 0 = 48)) && bO (fun i => bc (at8 s i)) 0 s.length) := by
 unfold gA
 cases hd : bO (fun i => bc (at8 s i)) 0 s.length with
 | false => simp
 | true =>
  have hlt := tT s hd
  by_cases h4 : s.length ≤ 4
  ·have : 10 ^ s.length ≤ 10 ^ 4 := Nat.pow_le_pow_right (by omega) h4
   rw [decide_eq_true h4, decide_eq_true (by omega : s.length ≤ 9), decide_eq_true (by omega : dy s ≤ 9999)]
   simp
  ·rw [decide_eq_false h4]
   match s, hd, h4 with
   | b :: r, hd, h4 =>
    by_cases h0 : at8 (b :: r) 0 = 48
    ·rw [decide_eq_true h0, decide_eq_true (by omega : 1 < (b :: r).length)]; simp
    ·have h1 := (qd hd).1
     simp only [bc, Bool.and_eq_true, decide_eq_true_eq] at h1
     have h2 : 49 ≤ b.toNat := by
      simp [at8] at h0
      omega
     have h3 := zR (r := r) h2
     have : 10 ^ 4 ≤ 10 ^ r.length := Nat.pow_le_pow_right (by omega) (by simp at h4; omega)
     rw [decide_eq_false (by omega : ¬ dy (b :: r) ≤ 9999)]
     simp
def dg (n : Nat) : UInt8 := UInt8.ofNat (48 + n)
def uL : Nat → Nat → aq
 | 0, n => [dg n]
 | f + 1, n => if n < 10 then [dg n] else uL f (n / 10) ++ [dg (n % 10)]
def gy (n : Nat) : aq := uL n n
theorem yz : ∀ (f g n : Nat), n ≤ f → n ≤ g → uL f n = uL g n
 | 0, 0, n, _, _ => rfl
 | 0, g + 1, n, h, _ => by
  obtain rfl : n = 0 := by omega
  simp [uL]
 | f + 1, 0, n, _, h => by
  obtain rfl : n = 0 := by omega
  simp [uL]
 | f + 1, g + 1, n, h1, h2 => by
  simp only [uL]
  split
  ·rfl
  ·rw [yz f g (n / 10) (by omega) (by omega)]
theorem qR {n : Nat} (h : n < 10) : gy n = [dg n] := by
 unfold gy; cases n <;> simp [uL, h]
theorem qQ {n : Nat} (h : 9 < n) : gy n = gy (n / 10) ++ [dg (n % 10)] := by
 unfold gy
 obtain ⟨k, rfl⟩ : ∃ k, n = k + 1 := ⟨n - 1, by omega⟩
 simp only [uL]
 rw [if_neg (by omega), yz k ((k + 1) / 10) _ (by omega) (by omega)]
theorem eU : ∀ (k n : Nat), n < 10 ^ k → 0 < k → (gy n).length ≤ k := by
 intro k
 induction k with
 | zero => intro n _ h; omega
 | succ k ih =>
  intro n h _
  by_cases h10 : n < 10
  ·rw [qR h10]; simp
  ·rw [qQ (by omega)]
   have hk : 0 < k := by
    rcases Nat.eq_zero_or_pos k with rfl | h0
    ·simp at h; omega
    ·exact h0
   have := ih (n / 10) (by rw [Nat.pow_succ] at h; omega) hk
   simp; omega
theorem HH {n : Nat} (h : n < 10) : ((dg n).toNat : Int) = 48 + n := by
 have : (48 + n) % 256 = 48 + n := Nat.mod_eq_of_lt (by omega)
 simp [dg, this]
def bq (b : Int) : aq → aq → List aq
 | [], cur => [cur]
 | c :: r, cur => if (c.toNat : Int) = b then cur :: bq b r [] else bq b r (cur ++ [c])
def ar (s : aq) (b : Int) : List aq := bq b s []
theorem mK (s : aq) (i : Nat) (h : i < s.length) : s.drop i = s.getD i 0 :: s.drop (i + 1) := by
 rw [List.drop_eq_getElem_cons h]; simp [h]
theorem Ag {s : aq} {b : Int} {i fr : Nat} (h : i < s.length) (he : at8 s i = b) : bq b (s.drop i) ((s.take i).drop fr) = ((s.take i).drop fr) :: bq b (s.drop (i + 1)) ((s.take (i + 1)).drop (i + 1)) := by
 rw [mK s i h]
 have h2 : (s.take (i + 1)).drop (i + 1) = [] := by simp
 rw [h2]
 simp only [bq]
 rw [if_pos (by simpa [at8] using he)]
theorem Ah {s : aq} {b : Int} {i fr : Nat} (h : i < s.length) (hf : fr ≤ i) (he : ¬ at8 s i = b) : bq b (s.drop i) ((s.take i).drop fr) = bq b (s.drop (i + 1)) ((s.take (i + 1)).drop fr) := by
 rw [mK s i h, oZ s i h, List.drop_append_of_le_length (by simp; omega)]
 simp only [bq]
 rw [if_neg (by simpa [at8] using he)]
theorem yg {s : aq} {b : Int} {i fr : Nat} (h : s.length ≤ i) : bq b (s.drop i) ((s.take i).drop fr) = [s.drop fr] := by
 rw [List.drop_eq_nil_of_le h, List.take_of_length_le h]; rfl
theorem n7 (b : Int) : ∀ (s cur : aq), (bq b s cur).length ≤ s.length + 1
 | [], cur => by simp [bq]
 | c :: r, cur => by
  simp only [bq]
  split
  ·have := n7 b r []; simp; omega
  ·have := n7 b r (cur ++ [c]); simp; omega
theorem cY (s : aq) (b : Int) : (ar s b).length ≤ s.length + 1 := n7 b s []
theorem fB (b : Int) (s cur : aq) : 1 ≤ (bq b s cur).length := by
 induction s generalizing cur with
 | nil => simp [bq]
 | cons c r ih =>
  simp only [bq]
  split
  ·simp
  ·exact ih _
def gP (s : aq) (b : Int) (i : Nat) : aq × aq := match (s.drop i).findIdx? (fun c => decide ((c.toNat : Int) = b)) with
 | some k => (s.drop (i + k + 1), s.take (i + k))
 | none => ([], s)
def dE (s : aq) (b : Int) : aq × aq := gP s b 0
theorem xt {s : aq} {b : Int} {i : Nat} (h : i < s.length) (he : at8 s i = b) : gP s b i = (s.drop (i + 1), s.take i) := by
 unfold gP
 rw [mK s i h, List.findIdx?_cons]
 simp only [at8] at he
 rw [if_pos (by simpa using he)]; rfl
theorem xu {s : aq} {b : Int} {i : Nat} (h : i < s.length) (he : ¬ at8 s i = b) : gP s b i = gP s b (i + 1) := by
 unfold gP
 rw [mK s i h, List.findIdx?_cons]
 simp only [at8] at he
 simp only [he, decide_false, Bool.false_eq_true, if_false]
 cases (s.drop (i + 1)).findIdx? (fun c => decide ((c.toNat : Int) = b)) with
 | none => rfl
 | some k => simp only [Option.map_some]; rw [show i + (k + 1) = i + 1 + k by omega]
theorem vP {s : aq} {b : Int} {i : Nat} (h : s.length ≤ i) : gP s b i = ([], s) := by
 unfold gP
 rw [List.drop_eq_nil_of_le h]; rfl
def ki (c : Int) : Bool := gz c || bc c || decide (c = 45)
def qK (t : aq) : Bool := decide (1 ≤ t.length) && decide (t.length ≤ 8) && bO (fun i => ki (at8 t i)) 0 t.length
def hY (t : aq) : Bool := bO (fun i => bc (at8 t i)) 0 t.length && decide (0 < t.length)
def gu (p : Bool) (t : aq) : Bool := qK t && !(p && hY t && !gA t)
def jZ (s : aq) (p : Bool) : Bool := decide ((ar s 46).length ≤ 4) && bO (fun i => gu p (ar s 46)[i]!) 0 (ar s 46).length
def y9 (s : aq) (p : Bool) : Bool := decide (s = []) || jZ s p
def uO (n : Int) : Bool := decide (0 ≤ n) && decide (n ≤ 9999)
def jo (v : dP) : Bool := uO v.major && uO v.minor && uO v.patch && y9 v.pre true && y9 v.build false
def Al (v : dP) : aq := gy v.major.toNat ++ [46] ++ gy v.minor.toNat ++ [46] ++ gy v.patch.toNat ++ (if v.pre = [] then [] else 45 :: v.pre) ++ (if v.build = [] then [] else 43 :: v.build)
def oc (v : dP) : aq := if jo v = true then Al v else []
def dP.sm (v : dP) : Prop := v.pre.length ≤ 1048576 ∧ v.build.length ≤ 1048576
def Env.at (e : Env) : Nat → aq
 | 0 => e.e0
 | 1 => e.e1
 | _ => e.e2
theorem Env.ld (e : Env) {i : Nat} (h : i < 3) : nr (Env.D e) 3 1 (0 + i * 1) false = .str (e.at i) := by
 match i, h with
 | 0, _ => rfl
 | 1, _ => rfl
 | 2, _ => rfl
theorem vw.ld (l : vw) {i : Nat} (h : i < 3) : nr (vw.D l) 4 1 (0 + i * 1) false = .str (l.env.at i) := by
 match i, h with
 | 0, _ => rfl
 | 1, _ => rfl
 | 2, _ => rfl
theorem Env.cut (e : Env) {i : Nat} (h : i < 3) : Abs.cut [.str e.e0, .str e.e1, .str e.e2] (i * 1) 1 false = .str (e.at i) := by
 match i, h with
 | 0, _ => rfl
 | 1, _ => rfl
 | 2, _ => rfl
def ph.sm (x : ph) : Prop := x.v.sm ∧ x.name.length ≤ 1048576 ∧ x.shelf.length ≤ 1048576 ∧ x.feats.length ≤ 1048576 ∧ ∀ t ∈ x.feats, t.length ≤ 1048576
def vw.sm (l : vw) : Prop := l.lines.length ≤ 1048576 ∧ (∀ x ∈ l.lines, x.sm) ∧ ∀ i, (l.env.at i).length ≤ 1048576
theorem cE {α : Type} [Inhabited α] {l : List α} {i : Nat} (h : i < l.length) : l[i]! ∈ l := by
 simp [h]
structure Kp where
 name : aq
 v : dP
 deriving Inhabited, DecidableEq
def Kp.D (x : Kp) : D := .agg [.str x.name, .int .i64 x.v.major, .int .i64 x.v.minor, .int .i64 x.v.patch, .str x.v.pre, .str x.v.build]
theorem eA {α : Type} [Inhabited α] [DecidableEq α] {a b : List α} (h : a.length = b.length) : decide (a = b) = bO (fun i => decide (a[i]! = b[i]!)) 0 a.length := by
 rw [Bool.eq_iff_iff, decide_eq_true_eq, en]
 constructor
 ·rintro rfl j _ _; simp
 ·intro hj
  apply List.ext_getElem h
  intro i h1 h2
  have := hj i (by omega) h1
  simpa [h1, h2] using this
theorem ph.same {a b : ph} (e1 : a.name = b.name) (e2 : a.v = b.v) (e3 : a.shelf = b.shelf) (e4 : a.sum = b.sum) (e5 : a.feats.length = b.feats.length) : decide (a = b) = bO (fun i => decide (a.feats[i]! = b.feats[i]!)) 0 a.feats.length := by
 rw [← eA e5]
 obtain ⟨a1, a2, a3, a4, a5⟩ := a
 obtain ⟨b1, b2, b3, b4, b5⟩ := b
 simp only at e1 e2 e3 e4
 subst e1; subst e2; subst e3; subst e4
 simp
def bj (b : aq) : List aq → aq
 | [] => []
 | [t] => t
 | t :: u :: r => t ++ b ++ bj b (u :: r)
theorem eu (b t : aq) (r : List aq) (h : r ≠ []) : bj b (t :: r) = t ++ b ++ bj b r := by
 cases r with
 | nil => exact absurd rfl h
 | cons u r => rfl
theorem mb {α : Type} (q : α → aq) (B : Nat) : ∀ l : List α, (∀ x ∈ l, (q x).length ≤ B) → ((l.map q).flatten).length ≤ l.length * B
 | [], _ => by simp
 | a :: r, h => by
  have h1 := h a (.head _)
  have h2 := mb q B r fun x hx => h x (.tail _ hx)
  simp only [List.map_cons, List.flatten_cons, List.length_append, List.length_cons, Nat.succ_mul]
  omega
theorem wZ (v : dP) (h : v.sm) : (oc v).length ≤ 2097200 := by
 unfold oc
 split
 ·rename_i hv
  simp only [jo, Bool.and_eq_true] at hv
  obtain ⟨⟨⟨⟨hv1, hv2⟩, hv3⟩, _⟩, _⟩ := hv
  simp only [uO, Bool.and_eq_true, decide_eq_true_eq] at hv1 hv2 hv3
  have hl1 := eU 4 v.major.toNat (by omega) (by omega)
  have hl2 := eU 4 v.minor.toNat (by omega) (by omega)
  have hl3 := eU 4 v.patch.toNat (by omega) (by omega)
  obtain ⟨h1, h2⟩ := h
  unfold Al
  split <;> split <;> simp <;> omega
 ·simp
def Env.sm (e : Env) : Prop := ∀ i, (e.at i).length ≤ 1048576
end Go.Abs
section
namespace Go.Abs
def FC (v n : Int) : Int := if n < 1 then 0 else if v.tmod n < 0 then v.tmod n + n else v.tmod n
def atI (l : List Int) (i : Int) : Int := if i < 0 ∨ (l.length : Int) ≤ i then i.tmod 3 else l[i.toNat]!
structure Gs where
 l : List Int
 i : Int
 deriving Inhabited
def Gs.D (g : Gs) : D := .agg [.sl 1 (g.l.map (D.int .i64)), .int .i64 g.i]
def Gs.val (g : Gs) (n : Int) : Int := FC (atI g.l g.i) n
def Gs.sW (g : Gs) : Gs := ⟨g.l, g.i + 1⟩
def dN (s : aq) (b : UInt8) : aq × aq × Bool := match s.findIdx? (fun c => c == b) with
 | some k => (s.take k, s.drop (k + 1), true)
 | none => (s, [], false)
def cX (s p : aq) : aq × Bool := if p.isPrefixOf s = true then (s.drop p.length, true) else (s, false)
theorem AN (s : aq) (b : UInt8) : (dN s b).1.length ≤ s.length ∧ ((dN s b).2.2 = true → (dN s b).1.length + 1 ≤ s.length) := by
 unfold dN
 split
 ·rename_i k h
  have := List.findIdx?_eq_some_iff_findIdx_eq.1 h
  simp only [List.length_take]
  omega
 ·simp
structure D8 where
 s : aq
 at' : Nat
 n : Nat
def D8.D (r : D8) : D := .agg [.str r.s, .int .i64 (r.at' : Nat), .int .i64 (r.n : Nat)]
def D8.ln (r : D8) : aq × aq × Bool := dN (r.s.drop r.at') 10
def D8.sW (r : D8) : D8 := ⟨r.s, if r.ln.2.2 = true then r.at' + (r.ln.1.length + 1) else r.at', r.n + 1⟩
def iy : dP := ⟨0, 0, 0, [], []⟩
def lL (s : aq) : Option dP :=
 let a := dE s 43
 let b := dE a.2 45
 let l := ar b.2 46
 if l.length = 3 ∧ gA l[0]! = true ∧ gA l[1]! = true ∧ gA l[2]! = true then
  let v : dP := ⟨dx l[0]!, dx l[1]!, dx l[2]!, b.1, a.1⟩
  if jo v = true ∧ oc v = s then some v else none
 else none
def Dn (l : List aq) (i : Nat) : D := .agg [.int .i64 (if 0 < i then dx l[0]! else 0), .int .i64 (if 1 < i then dx l[1]! else 0), .int .i64 (if 2 < i then dx l[2]! else 0)]
theorem Bh (l : List aq) (i : Nat) (h : i < 3) : sJ (Dn l i) 3 1 (0 + i * 1) (.int .i64 (dx l[i]!)) = Dn l (i + 1) := by
 match i, h with
 | 0, _ => rfl
 | 1, _ => rfl
 | 2, _ => rfl
theorem jA (s : aq) (b : Int) : (dE s b).1.length ≤ s.length ∧ (dE s b).2.length ≤ s.length := by
 unfold dE gP
 split
 ·simp; omega
 ·simp
theorem n8 (b : Int) : ∀ (s cur : aq), ∀ t ∈ bq b s cur, t.length ≤ cur.length + s.length
 | [], cur, t, h => by simp only [bq, List.mem_singleton] at h; subst h; simp
 | c :: r, cur, t, h => by
  simp only [bq] at h
  split at h
  ·rcases List.mem_cons.1 h with rfl | h
   ·simp
   ·have := n8 b r [] t h
    simp at this ⊢; omega
  ·have := n8 b r (cur ++ [c]) t h
   simp at this ⊢; omega
theorem dd (s : aq) (b : Int) {t : aq} (h : t ∈ ar s b) : t.length ≤ s.length := by
 have := n8 b s [] t h
 simpa using this
theorem ye (s : aq) (b : Int) {i : Nat} (h : i < (ar s b).length) : ((ar s b)[i]!).length ≤ s.length := dd s b (cE h)
end Go.Abs
namespace Go.Abs
def sP (s : aq) : Int := if (lL s).isSome = true then 0 else 5
end Go.Abs
namespace Go.Abs
end Go.Abs
namespace Go.Abs
theorem DW {s : aq} (h : s.length ≤ 1048576) : ((lL s).getD iy).sm := by
 have h0 : iy.sm := ⟨by simp [iy], by simp [iy]⟩
 cases hq : lL s with
 | none => exact h0
 | some v =>
  simp only [Option.getD_some]
  simp only [lL] at hq
  split at hq
  ·split at hq
   ·obtain rfl := Option.some.inj hq
    have h1 := jA s 43
    have h2 := jA (dE s 43).2 45
    exact ⟨by simp only; omega, by simp only; omega⟩
   ·cases hq
  ·cases hq
end Go.Abs
namespace Go.Abs
theorem xB (s p : aq) : (cX s p).1.length ≤ s.length := by
 unfold cX; split <;> simp
end Go.Abs
namespace Go.Abs
variable {e : Env} {f : Nat} {r : D8} {ls : List ph}
end Go.Abs
namespace Go.Abs
end Go.Abs
end
section
namespace Go.Abs
section
variable {Γ : Ctx} {draw : Bool} {r : List GI} {env rs : List aN} {nx : Nat} {m : List (Nat × bm)} {K : List aN → St → Prop} {g : Option (Nat × Bool)} {f : Bool}
theorem cF {n : Nat} {args : List Src} {as : List D} {v : D} {nx' : Nat} {m' : List (Nat × bm)} (h : aG Γ draw r env (⟨true, v⟩ :: rs) nx' m' K)
  (hc : ∀ K' : D → St → Prop, K' v ⟨nx' + rs.length, m'⟩ → Γ.tr n as ⟨nx + rs.length, m⟩ K') (hn : nx ≤ nx') (ha : eB (ca env rs) args = as := by exact rfl)
  (ho : rb (ca env rs) args := by repeat' first | exact trivial | exact rfl | refine And.intro ?_ ?_) : aG Γ draw (⟨.callM n args, none⟩ :: r) env rs nx m K := by
 unfold aG
 show True ∧ (true = true → rb (Src.ev env rs.reverse) args ∧ Γ.tr n (eB (Src.ev env rs.reverse) args) { nx := nx + rs.reverse.length, m := m } _) ∧ (true = false → _)
 rw [jC, List.length_reverse, ha]
 refine ⟨trivial, fun _ => ⟨ho, hc _ ⟨by show nx + rs.length ≤ nx' + rs.length; omega, ?_⟩⟩, fun h => by cases h⟩
 unfold aG at h
 rw [List.reverse_cons] at h
 have e : nx' + rs.length - rs.length = nx' := by omega
 simp only [e]
 exact h
theorem kC {n : Nat} {args : List Src} {as : List D} {ι : Type} (P : ι → Prop) (V : ι → D) (nx' : Nat) (M : ι → List (Nat × bm)) (h : ∀ i, P i → aG Γ draw r env (⟨true, V i⟩ :: rs) nx' (M i) K)
  (hc : ∀ K' : D → St → Prop, (∀ i, P i → K' (V i) ⟨nx' + rs.length, M i⟩) → Γ.tr n as ⟨nx + rs.length, m⟩ K') (hn : nx ≤ nx') (ha : eB (ca env rs) args = as := by exact rfl)
  (ho : rb (ca env rs) args := by repeat' first | exact trivial | exact rfl | refine And.intro ?_ ?_) : aG Γ draw (⟨.callM n args, none⟩ :: r) env rs nx m K := by
 unfold aG
 show True ∧ (true = true → rb (Src.ev env rs.reverse) args ∧ Γ.tr n (eB (Src.ev env rs.reverse) args) { nx := nx + rs.reverse.length, m := m } _) ∧ (true = false → _)
 rw [jC, List.length_reverse, ha]
 refine ⟨trivial, fun _ => ⟨ho, hc _ fun i hi => ⟨by show nx + rs.length ≤ nx' + rs.length; omega, ?_⟩⟩, fun h => by cases h⟩
 have h := h i hi
 unfold aG at h
 rw [List.reverse_cons] at h
 have e : nx' + rs.length - rs.length = nx' := by omega
 simp only [e]
 exact h
theorem iU {n : Nat} {x : Src} {caps : List D} {args : List Src} {as : List D} {ι : Type} (P : ι → Prop) (V : ι → D) (nx' : Nat) (M : ι → List (Nat × bm)) (h : ∀ i, P i → aG Γ draw r env (⟨true, V i⟩ :: rs) nx' (M i) K)
  (hc : ∀ K' : D → St → Prop, (∀ i, P i → K' (V i) ⟨nx' + rs.length, M i⟩) → Γ.tr (uG n) as ⟨nx + rs.length, m⟩ K') (hn : nx ≤ nx') (hx : ca env rs x = ⟨true, .fn n caps⟩ := by exact rfl) (ha : sZ n (eB (ca env rs) args) caps = as := by exact rfl)
  (ho : rb (ca env rs) args := by repeat' first | exact trivial | exact rfl | refine And.intro ?_ ?_) : aG Γ draw (⟨.callvM x args, none⟩ :: r) env rs nx m K := by
 unfold aG
 show A0 rs.reverse (.callvM x args) none ∧ (Src.ev env rs.reverse x).ok = true ∧ rb (Src.ev env rs.reverse) args ∧ match (Src.ev env rs.reverse x).d with
   | .fn n caps => Γ.tr (uG n) (sZ n (eB (Src.ev env rs.reverse) args) caps) { nx := nx + rs.reverse.length, m := m } _
   | _ => False
 rw [jC, List.length_reverse]
 simp only [hx, ha]
 refine ⟨trivial, trivial, ho, hc _ fun i hi => ⟨by show nx + rs.length ≤ nx' + rs.length; omega, ?_⟩⟩
 have h := h i hi
 unfold aG at h
 rw [List.reverse_cons] at h
 have e : nx' + rs.length - rs.length = nx' := by omega
 simp only [e]
 exact h
theorem BV {x : Src} {fx : Bool} {α : Type} [Inhabited α] {n k i o : Nat} {ag : Bool} {q : α → D} {xs : List α} (v : D) (h : aG Γ draw r env (⟨f, v⟩ :: rs) nx m K) (hg : GF rs g f := by exact cI) (hx : ca env rs x = ⟨fx, .ref k (xs.map q) i o⟩ := by exact rfl) (kx : f = true → fx = true := by exact bS) (hi : f = true → i < xs.length := by exact sU) (hv : f = true → nr (q xs[i]!) k n o ag = v := by exact fun _ => rfl) (ho : o + n ≤ k := by omega) : aG Γ draw (⟨.ldU n ag x, g⟩ :: r) env rs nx m K :=
 fA rfl hg _ (fun hf => by simp only [aA.cV, hx, xg, List.length_map]; exact ⟨kx hf, hi hf, ho⟩) (fun hf => by simp only [aA.val, hx, wj]; rw [getD_map (hi hf)]; exact hv hf) m rfl (fun ha => h)
theorem BU {x : Src} {fx : Bool} {n l k o : Nat} {ag : Bool} {d : D} (v : D) (h : aG Γ draw r env (⟨f, v⟩ :: rs) nx m K) (hg : GF rs g f := by exact cI) (hx : ca env rs x = ⟨fx, .ptr l k 0 o⟩ := by exact rfl) (kx : f = true → fx = true := by exact bS) (hl : f = true → look m l = some (.buf k [d]) := by exact fun _ => rfl) (hv : f = true → nr d k n o ag = v := by exact fun _ => rfl) (ho : o + n ≤ k := by omega) (hd : f = true → d.aL = false := by exact fun _ => rfl) : aG Γ draw (⟨.ldU n ag x, g⟩ :: r) env rs nx m K :=
 fA rfl hg _ (fun hf => by simp only [aA.cV, hx, xg, dz, hl hf]; exact ⟨kx hf, ⟨⟨trivial, by simp⟩, ho⟩, by simp only [aE, hl hf, aH, hd hf]; rfl⟩) (fun hf => by simp only [aA.val, hx, wj, aE, hl hf, List.getD_cons_zero]; exact hv hf) m rfl (fun ha => h)
end
end Go.Abs
end
section
namespace Go.Abs
def Fp : List aq → D
 | [] => .av
 | a :: r => .sl 1 ((a :: r).map D.str)
theorem tS : ∀ l, (Fp l).aL = true
 | [] => rfl
 | a :: r => rfl
def ph.N (x : ph) : Go.Abs.D := .agg [.str x.name, .int .i64 x.v.major, .int .i64 x.v.minor, .int .i64 x.v.patch, .str x.v.pre, .str x.v.build, .str x.shelf, .int .u64 x.sum, Fp x.feats]
theorem ph.kM (x : ph) : x.N.aL = true := by
 have := tS x.feats
 simp only [ph.N, D.aL, aH, this, Bool.and_true]
end Go.Abs
namespace Go.Abs
def ph.F (name : aq) (v : dP) (shelf : aq) (sum : Int) (fs : Go.Abs.D) : Go.Abs.D := .agg [.str name, .int .i64 v.major, .int .i64 v.minor, .int .i64 v.patch, .str v.pre, .str v.build, .str shelf, .int .u64 sum, fs]
mutual
theorem Fe (l k : Nat) (es : List D) : ∀ d : D, d.aL = true → gI l k es d = d
 | .agg a, h => by simp only [gI, rO l k es a (by simpa [D.aL] using h)]
 | .tup a, h => by simp only [gI, rO l k es a (by simpa [D.aL] using h)]
 | .fn n a, h => by simp only [gI, rO l k es a (by simpa [D.aL] using h)]
 | .own .., h => by simp [D.aL] at h
 | .ptr .., h => by simp [D.aL] at h
 | .it .., h => by simp [D.aL] at h
 | .any, _ | .bool _, _ | .int .., _ | .str _, _ | .av, _ | .sl .., _ | .ref .., _ | .nilp, _ | .nilf, _ => rfl
theorem rO (l k : Nat) (es : List D) : ∀ ds : List D, aH ds = true → kL l k es ds = ds
 | [], _ => rfl
 | d :: r, h => by
  simp only [aH, Bool.and_eq_true] at h
  simp only [kL, Fe l k es d h.1, rO l k es r h.2]
end
end Go.Abs
namespace Go.Abs
end Go.Abs
namespace Go.Abs
end Go.Abs
namespace Go.Abs
end Go.Abs
namespace Go.Abs
end Go.Abs
namespace Go.Abs
end Go.Abs
end
section
namespace Go.Abs
end Go.Abs
namespace Go.Abs
theorem Kp.eq (a b : Kp) : et (Kp.D a).cells (Kp.D b).cells = decide (a = b) := by
 obtain ⟨n1, ⟨a1, a2, a3, a4, a5⟩⟩ := a
 obtain ⟨n2, ⟨b1, b2, b3, b4, b5⟩⟩ := b
 simp only [Kp.D, D.cells, et, oD, qT, Kp.mk.injEq, dP.mk.injEq, Bool.and_true]
 simp only [Bool.decide_and]
structure ph.ok (n : Nat) (x : ph) : Prop where
 pre : x.v.pre.length ≤ 3
 build : x.v.build.length ≤ 2
 name : x.name.length ≤ 16
 shelf : x.shelf.length ≤ 16
 nf : x.feats.length ≤ n
 ft : ∀ t ∈ x.feats, t.length ≤ 16
 sum : 0 ≤ x.sum ∧ x.sum < 18446744073709551616
structure vw.ok (n : Nat) (l : vw) : Prop where
 len : l.lines.length ≤ 4
 lines : ∀ x ∈ l.lines, x.ok n
 env : ∀ i, (l.env.at i).length ≤ 16
theorem vw.ok.sm {n : Nat} {l : vw} (h : l.ok n) (hn : n ≤ 1000) : l.sm := by
 refine ⟨by have := h.len; omega, fun x hx => ?_, fun i => by have := h.env i; omega⟩
 have k := h.lines x hx
 have k1 := k.pre; have k2 := k.build; have k3 := k.name; have k4 := k.shelf; have k5 := k.nf
 exact ⟨⟨by omega, by omega⟩, by omega, by omega, by omega, fun t ht => by have := k.ft t ht; omega⟩
theorem ph.ok.mono {n m : Nat} {x : ph} (h : x.ok n) (hm : n ≤ m) : x.ok m := ⟨h.pre, h.build, h.name, h.shelf, Nat.le_trans h.nf hm, h.ft, h.sum⟩
end Go.Abs
end
section
namespace Go.Abs
def lk {α : Type} : List (Nat × α) → Nat → α → α
 | [], _, d => d
 | (a, b) :: r, n, d => bif Nat.beq a n then b else lk r n d
structure Row where
 key : Nat
 pre : List D → Prop
 val : List D → D
structure HC where
 pre : D → List D → Prop
 val : D → List D → D
 new : D → List D → D
def Row.no : Row := ⟨0, fun _ => False, fun _ => .any⟩
def HC.no : HC := ⟨fun _ _ => False, fun _ _ => .any, fun _ _ => .any⟩
section
variable [cd] {P : Program} {ν : List (Nat × Nat)} {bM : List Nat} {Γ : Ctx}
end
end Go.Abs
end
section
namespace Go.Abs
variable [cd]
section
variable {P : Program} {ν : List (Nat × Nat)} {bM : List Nat} {Γ : Ctx}
theorem RD.re {x x' : X} {σ : List (Nat × Nat)} (hw : x'.w = x.w) (hI : x'.I = x.I) (hβ : ∀ l l', kn 0 σ l = some l' → x'.β l' = x.β l) {v : Value} {d d' : D} (hv : RD ν x v d) (hd : Ck 0 σ d d') : RD ν x' v d' := by
 rcases hd with ⟨rfl, hn⟩ | hd | hd
 ·exact hv.aL hn (fun _ h => by rw [hI]; exact h) (fun _ _ => by rw [hw])
 ·exact RD.rn (x := x) (x' := x') hw hI hβ hv _ hd
 ·exact RD.nl (x := x) (x' := x') hw hI hv _ hd
theorem j7.re {x x' : X} {σ : List (Nat × Nat)} (hw : x'.w = x.w) (hI : x'.I = x.I) (hβ : ∀ l l', kn 0 σ l = some l' → x'.β l' = x.β l) {b base tot : Nat} {b0 blk : bm} (o2 : j7 ν x b base tot b0) (q3 : nw 0 σ b0 blk) : j7 ν x' b base tot blk := by
 cases b0 with
 | iter s p =>
  cases blk with
  | iter s' p' => simp only [nw] at q3; obtain ⟨rfl, rfl⟩ := q3; simp only [j7, hw] at o2 ⊢; exact o2
  | _ => simp [nw] at q3
 | row s =>
  cases blk with
  | row s' => simp only [nw] at q3; subst q3; simp only [j7, hw] at o2 ⊢; exact o2
  | _ => simp [nw] at q3
 | bld o n u =>
  cases blk with
  | bld o' n' u' =>
   simp only [nw] at q3
   obtain ⟨q3, rfl, rfl⟩ := q3
   obtain ⟨p1, v, p2, p3⟩ := o2
   refine ⟨p1, v, by rw [hw]; exact p2, ?_⟩
   cases o with
   | none => simp only at q3; subst q3; exact p3
   | some l0 =>
    obtain ⟨l1, q4, rfl⟩ := q3
    obtain ⟨g, t, p4, p5, p6⟩ := p3
    exact ⟨g, t, p4, p5, by rw [hβ l0 l1 q4]; exact p6⟩
  | _ => simp [nw] at q3
 | buf k es =>
  cases blk with
  | iter s' p' => simp [nw] at q3
  | row s' => simp [nw] at q3
  | bld o' n' u' => simp [nw] at q3
  | buf k' es' =>
   simp only [nw] at q3
   obtain ⟨rfl, q3⟩ := q3
   obtain ⟨p1, p2, cc, T, fr, p3, p4, p5, p6⟩ := o2
   rw [← hw] at p3
   rcases q3 with ⟨rfl, hn⟩ | q3 | q3
   ·exact ⟨p1, p2, cc, T, fr, p3, p4, p5, fun i hi => ⟨(p6 i hi).1, fun j hj => ⟨((p6 i hi).2 j hj).1, RD.re hw hI hβ ((p6 i hi).2 j hj).2 (.inl ⟨rfl, gK (b8 hn i) j⟩)⟩⟩⟩
   ·obtain ⟨r1, r2⟩ := ib q3
    refine ⟨p1, by omega, cc, T, fr, p3, p4, p5, fun i hi => ?_⟩
    have hi' : i < es.length := by omega
    obtain ⟨s1, s2⟩ := tZ (r2 i hi')
    exact ⟨s1.trans (p6 i hi').1, fun j hj => ⟨((p6 i hi').2 j hj).1, RD.re hw hI hβ ((p6 i hi').2 j hj).2 (.inr (.inl (s2 j (by rw [(p6 i hi').1]; exact hj))))⟩⟩
   ·obtain ⟨r1, r2⟩ := lN q3
    refine ⟨p1, by omega, cc, T, fr, p3, p4, p5, fun i hi => ?_⟩
    have hi' : i < es.length := by omega
    obtain ⟨s1, s2⟩ := tm (r2 i hi')
    exact ⟨s1.trans (p6 i hi').1, fun j hj => ⟨((p6 i hi').2 j hj).1, RD.re hw hI hβ ((p6 i hi').2 j hj).2 (.inr (.inr (s2 j (by rw [(p6 i hi').1]; exact hj))))⟩⟩
theorem yZ {lo c : Nat} {σ : List (Nat × Nat)} {l l' : Nat} (h0 : eQ 0 c σ = true) (h : kn 0 σ l = some l') : l' < c ∧ (l, l') ∈ σ := by
 obtain ⟨h1, h2⟩ := oX h0 h
 rcases h2 with ⟨h2, _⟩ | ⟨_, h2⟩
 ·omega
 ·exact ⟨h1, h2⟩
theorem oS {c : Nat} : ∀ {σ : List (Nat × Nat)} {a b : Nat}, eQ 0 c σ = true → (a, b) ∈ σ → kn 0 σ a = some b
 | [], a, b, _, h => by cases h
 | (a0, b0) :: r, a, b, h0, h => by
  unfold kn
  simp only [eQ, Bool.and_eq_true, List.all_eq_true, Bool.not_eq_true'] at h0
  obtain ⟨_, _, p4, p5⟩ := h0
  rcases List.mem_cons.1 h with h | h
  ·simp only [Prod.mk.injEq] at h
   obtain ⟨rfl, rfl⟩ := h
   simp
  ·have := (p4 _ h).1
   simp only at this
   have hne : Nat.beq a0 a = false := by
    cases hb : Nat.beq a0 a with
    | false => rfl
    | true => obtain rfl := Nat.eq_of_beq_eq_true hb; simp at this
   rw [hne]; exact oS p5 h
structure Fr (σi σo : List (Nat × Nat)) (q q1 : Nat) (m0 m1 : List (Nat × bm)) (st st' : St) : Prop where
 oki : eQ 0 q σi = true
 oko : eQ 0 st'.nx σo = true
 nx : st.nx ≤ st'.nx
 lt : ∀ l i, (l, i) ∈ σi → look st.m l ≠ none
 io : ∀ i l, (i, l) ∈ σo → (l, i) ∈ σi ∨ st.nx ≤ l
 m0 : ∀ i b, look m0 i = some b → ∃ l b', (l, i) ∈ σi ∧ look st.m l = some b' ∧ nw 0 σi b' b
 m1 : ∀ l b, look st'.m l = some b → (∃ i b1, (i, l) ∈ σo ∧ look m1 i = some b1 ∧ nw 0 σo b1 b) ∨ (ju σo l = none ∧ (∀ i, (l, i) ∉ σi) ∧ look st.m l = some b)
theorem CZ {fid : Nat} {fn : Func} {af : aI} {K : D → St → Prop} (hΓ : Ok P ν bM Γ) (hmix : P.follows .mixedOrders = true) (hf : P.funcs[fid]? = some fn) (hc : compile P ν bM fn = some af)
  {x : X} {args : Array Value} {ds cs : List D} {st : St} {σi : List (Nat × Nat)} {q : Nat} {m0 : List (Nat × bm)} (hl : args.size = ds.length) (hargs : ∀ i, i < ds.length → RD ν x (args.getD i undef) (ds.getD i .any))
  (hs : dm ν x (look st.m)) (hfr : dj st x) (hlen : cs.length = ds.length) (hds : ∀ i, i < ds.length → Ck 0 σi (ds.getD i .any) (cs.getD i .any)) (hnp : cs.length = af.np)
  (oki : eQ 0 q σi = true) (hlt : ∀ l i, (l, i) ∈ σi → look st.m l ≠ none) (hm0 : ∀ i b, look m0 i = some b → ∃ l b', (l, i) ∈ σi ∧ look st.m l = some b' ∧ nw 0 σi b' b)
  (hw : bo (Γ.at q) af.body (fun e env st1 => e.home ∧ n4 st1.m env af.res ∧ ∃ (σo : List (Nat × Nat)) (q1 : Nat) (m1 : List (Nat × bm)) (st' : St) (vd' : D), Fr σi σo q q1 m0 m1 st st' ∧ Ck 0 σo (gO af env st1) vd' ∧ K vd' st' ∧ ∀ i, look st1.m i = look m1 i) (bF af cs) ⟨q, m0⟩) :
  Calls P fid args x.w fun
   | .returned v, w' => ∃ x' d st', K d st' ∧ x'.w = w' ∧ Step x x' ∧ RD ν x' v d ∧ dm ν x' (look st'.m) ∧ dj st' x'
   | _, _ => False := by
 obtain ⟨body, c1, c2, c3, c4, c5, c6⟩ := eD hc
 let x0 : X := ⟨x.w, x.I, fun i => (ju σi i).bind x.β⟩
 have hx0 : ∀ l i, (l, i) ∈ σi → x0.β i = x.β l := fun l i h => by simp only [x0, qW oki h, Option.bind_some]
 have hβ0 : ∀ l i, kn 0 σi l = some i → x0.β i = x.β l := fun l i h => hx0 l i (yZ (lo := 0) oki h).2
 have hx0' : ∀ i p, x0.β i = some p → ∃ l, (l, i) ∈ σi ∧ x.β l = some p ∧ i < q := by
  intro i p h
  obtain ⟨l, h1, h2⟩ := Option.bind_eq_some_iff.1 (show (ju σi i).bind x.β = some p from h)
  exact ⟨l, hR h1, h2, mC oki (hR h1)⟩
 have hs0 : dm ν x0 (look m0) := by
  refine ⟨fun i blk b base tot e1 e2 => ?_, fun i j b base tot base' tot' e1 e2 e3 e4 => ?_, hs.imm, fun i b base tot e => ?_, cd.le x _ (fun _ h => h) (fun _ _ => rfl) hs.gd⟩
  ·obtain ⟨l, b', h1, h2, h3⟩ := hm0 i blk e1
   rw [hx0 l i h1] at e2
   obtain ⟨o1, o2⟩ := hs.own l b' b base tot h2 e2
   exact ⟨o1, j7.re (x := x) (x' := x0) rfl rfl hβ0 o2 h3⟩
  ·obtain ⟨l, h1, h2, _⟩ := hx0' i _ e3
   obtain ⟨l', h1', h2', _⟩ := hx0' j _ e4
   have := hs.inj l l' b base tot base' tot' (hlt _ _ h1) (hlt _ _ h1') h2 h2'
   subst this
   have := oS oki h1
   rw [oS oki h1'] at this
   exact (Option.some.inj this).symm
  ·obtain ⟨l, _, h2, _⟩ := hx0' i _ e
   exact hs.cT l b base tot h2
 have hf0 : dj ⟨q, m0⟩ x0 := by
  refine ⟨fun i hi => ?_, fun i hi => ?_⟩
  ·cases h : x0.β i with
   | none => rfl
   | some p => obtain ⟨_, _, _, h4⟩ := hx0' i p h; simp only at hi; omega
  ·cases h : look m0 i with
   | none => exact absurd h hi
   | some b => obtain ⟨l, b', h1, _⟩ := hm0 i b h; exact mC oki h1
 have hi := p0 (P := P) (ν := ν) (bM := bM) (x := x0) (ds := cs) (st := ⟨q, m0⟩) c4 c5 c6 (args := args) (by omega) hnp (fun i hi => RD.re (x := x) (x' := x0) rfl rfl hβ0 (hargs i (by omega)) (hds i (by omega))) hs0 hf0
 have hcs := nN (C := { P, ν, bM, slots := slotsOf fn, ntmps := fn.ntmps, vm := Am P fn }) (hΓ.at q) (jY fn).1 hmix x0 (fun l h => hf0.β l h) body af.body c2 _ _ _ _ x0 hw hi (.refl _)
 refine calls_of_wp hf c1 (wp_mono hcs fun e a w' hp => ?_)
 obtain ⟨e', x', env', st1, he, hxw, hst, hi', hh, hro, σo, q1, m1, st', vd', hfm, hvd, hK, hlk⟩ := hp
 subst hxw
 obtain ⟨v, r1, r2, r3⟩ := ml hi' c3 hro
 let x2 : X := ⟨x'.w, x'.I, fun l => match ju σo l with | some i => x'.β i | none => x.β l⟩
 have hx2 : ∀ i l, (i, l) ∈ σo → x2.β l = x'.β i := fun i l h => by simp only [x2, qW hfm.oko h]
 have hx2n : ∀ l, ju σo l = none → x2.β l = x.β l := fun l h => by simp only [x2, h]
 have hβ2 : ∀ i l, kn 0 σo i = some l → x2.β l = x'.β i := fun i l h => hx2 i l (yZ (lo := 0) hfm.oko h).2
 have hx0s : ∀ l i p, (l, i) ∈ σi → x.β l = some p → x'.β i = some p := fun l i p h e => hst.β _ _ (by rw [hx0 l i h]; exact e)

 have hnew : ∀ i p, x'.β i = some p → (∃ l, (l, i) ∈ σi ∧ x.β l = some p) ∨ x.w.heap.size ≤ p.1 ∨ ∃ l p', (∃ j, (l, j) ∈ σi) ∧ x.β l = some p' ∧ p'.1 = p.1 := by
  intro i p e
  rcases hst.newβ i p e with h | h | ⟨j, p', h1, h2⟩
  ·obtain ⟨l, h3, h4, _⟩ := hx0' i p h; exact .inl ⟨l, h3, h4⟩
  ·exact .inr (.inl h)
  ·obtain ⟨l, h3, h4, _⟩ := hx0' j p' h1; exact .inr (.inr ⟨l, p', ⟨j, h3⟩, h4, h2⟩)
 have hstep : Step x x2 := by
  refine ⟨hst.os, hst.tape, hst.output, hst.size, hst.I, hst.kX, fun l p hp => ?_, fun b hb hn => hst.old b hb fun i p h e => ?_, fun b h => ?_, fun l p h => ?_⟩
  ·cases h : ju σo l with
   | none => rw [hx2n l h]; exact hp
   | some i =>
    have hm := hR h
    rw [hx2 i l hm]
    rcases hfm.io i l hm with h2 | h2
    ·exact hx0s l i p h2 hp
    ·rw [hfr.β l h2] at hp; cases hp
  ·obtain ⟨l, _, h2, _⟩ := hx0' i p h
   exact hn l p h2 e
  ·rcases hst.newI b h with h | h | ⟨i, p, h1, h2⟩
   ·exact .inl h
   ·exact .inr (.inl h)
   ·obtain ⟨l, _, h3, _⟩ := hx0' i p h1
    exact .inr (.inr ⟨l, p, h3, h2⟩)
  ·cases h1 : ju σo l with
   | none => rw [hx2n l h1] at h; exact .inl h
   | some i =>
    have hm := hR h1
    rw [hx2 i l hm] at h
    rcases hnew i p h with ⟨l', h2, h3⟩ | h2 | ⟨l', p', _, h3, h4⟩
    ·exact .inr (.inr ⟨l', p, h3, rfl⟩)
    ·exact .inr (.inl h2)
    ·exact .inr (.inr ⟨l', p', h3, h4⟩)
 have hsim : dm ν x2 (look st'.m) := by
  refine ⟨fun l blk b base tot e1 e2 => ?_, fun l1 l2 b base tot base' tot' e1 e2 e3 e4 => ?_, hi'.jx.imm, fun l b base tot e => ?_, cd.le x' _ (fun _ h => h) (fun _ _ => rfl) hi'.jx.gd⟩
  ·rcases hfm.m1 l blk e1 with ⟨i, b1, h1, h2, h3⟩ | ⟨h1, h2, h3⟩
   ·rw [hx2 i l h1] at e2
    obtain ⟨o1, o2⟩ := hi'.jx.own i b1 b base tot (by rw [hlk]; exact h2) e2
    exact ⟨o1, j7.re (x := x') (x' := x2) rfl rfl hβ2 o2 h3⟩
   ·rw [hx2n l h1] at e2
    obtain ⟨o1, o2⟩ := hs.own l blk b base tot h3 e2
    have hlt := hs.cT l b base tot e2
    have hno : ∀ i p, x0.β i = some p → p.1 ≠ b := by
     rintro i ⟨b', base', tot'⟩ h e
     simp only at e
     subst e
     obtain ⟨l', h4, h5, _⟩ := hx0' i _ h
     have := hs.inj l' l b' base' tot' base tot (hfm.lt _ _ h4) (by rw [h3]; simp) h5 e2
     subst this
     exact h2 _ h4
    refine ⟨fun h => ?_, o2.mono hstep.le (hst.old b hlt hno)⟩
    rcases hst.newI b h with h | h | ⟨i, p, h4, h5⟩
    ·exact o1 h
    ·exact absurd hlt (Nat.not_lt.2 h)
    ·exact hno i p h4 h5
  ·have mix : ∀ l1 l2 base tot base' tot', (∃ i b1, (i, l1) ∈ σo ∧ look m1 i = some b1) → ju σo l2 = none → (∀ i, (l2, i) ∉ σi) → look st.m l2 ≠ none → x2.β l1 = some (b, base, tot) → x2.β l2 = some (b, base', tot') → False := by
    rintro l1 l2 base tot base' tot' ⟨i, b1, h1, h2⟩ h3 h4 h5 e3 e4
    rw [hx2 i l1 h1] at e3
    rw [hx2n l2 h3] at e4
    rcases hnew i _ e3 with ⟨l', h6, h7⟩ | h6 | ⟨l', ⟨pb, pt, pq⟩, ⟨j, h6⟩, h7, h8⟩
    ·have := hs.inj l' l2 b base tot base' tot' (hfm.lt _ _ h6) h5 h7 e4
     subst this
     exact h4 _ h6
    ·have := hs.cT l2 b base' tot' e4
     simp only at h6; omega
    ·simp only at h8
     subst h8
     have := hs.inj l' l2 pb pt pq base' tot' (hfm.lt _ _ h6) h5 h7 e4
     subst this
     exact h4 _ h6
   cases f1 : look st'.m l1 with
   | none => exact absurd f1 e1
   | some b1 =>
    cases f2 : look st'.m l2 with
    | none => exact absurd f2 e2
    | some b2 =>
     rcases hfm.m1 l1 b1 f1 with ⟨i, c1, h1, h2, _⟩ | ⟨h1, h2, h3⟩ <;> rcases hfm.m1 l2 b2 f2 with ⟨j, c2, k1, k2, _⟩ | ⟨k1, k2, k3⟩
     ·rw [hx2 i l1 h1] at e3
      rw [hx2 j l2 k1] at e4
      have := hi'.jx.inj i j b base tot base' tot' (by rw [hlk, h2]; simp) (by rw [hlk, k2]; simp) e3 e4
      subst this
      have := oS hfm.oko h1
      rw [oS hfm.oko k1] at this
      exact (Option.some.inj this).symm
     ·exact (mix l1 l2 base tot base' tot' ⟨i, c1, h1, h2⟩ k1 k2 (by rw [k3]; simp) e3 e4).elim
     ·exact (mix l2 l1 base' tot' base tot ⟨j, c2, k1, k2⟩ h1 h2 (by rw [h3]; simp) e4 e3).elim
     ·rw [hx2n l1 h1] at e3
      rw [hx2n l2 k1] at e4
      exact hs.inj l1 l2 b base tot base' tot' (by rw [h3]; simp) (by rw [k3]; simp) e3 e4
  ·cases h1 : ju σo l with
   | none => rw [hx2n l h1] at e; exact Nat.lt_of_lt_of_le (hs.cT l b base tot e) hst.size
   | some i =>
    rw [hx2 i l (hR h1)] at e
    exact hi'.jx.cT i b base tot e
 have hfr2 : dj st' x2 := by
  refine ⟨fun l hl => ?_, fun l hl => ?_⟩
  ·cases h1 : ju σo l with
   | none => rw [hx2n l h1]; exact hfr.β l (by have := hfm.nx; omega)
   | some i => have := mC hfm.oko (hR h1); omega
  ·cases f1 : look st'.m l with
   | none => exact absurd f1 hl
   | some b1 =>
    rcases hfm.m1 l b1 f1 with ⟨i, c1, h1, _⟩ | ⟨_, _, h3⟩
    ·exact mC hfm.oko h1
    ·have := hfr.m l (by rw [h3]; simp)
     have := hfm.nx; omega
 have hrd := RD.re (ν := ν) (x := x') (x' := x2) rfl rfl hβ2 r2 hvd
 rcases Ex.uY hh with h | h <;> rw [h] at he <;> subst he <;> exact ⟨hi'.defers, v, r1, x2, vd', st', hK, rfl, hstep, hrd, hsim, hfr2⟩
end
end Go.Abs
end
