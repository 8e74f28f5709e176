/- A part of the proofs of the statements of package linchpinlaw33: AbsS, AbsT, AbsV, AbsW. -/
import Derived.Scope
import Derived.Test.YtbpdiikonpbgeaaGreatDoorP03
set_option linter.all false
section
namespace Go.Abs
variable [Glob]
section
variable {C : CC} {Γ : Ctx}
structure Inv (C : CC) (a : Act) (x : X) (env : List Ent) (st : St) : Prop where
  len : env.length = C.slots.length
  env : ∀ n t : Nat, C.slots[n]? = some t → (env.getD n .un).ok = true → RD C.ν x (a.tmps.getD t undef) (env.getD n .un).d
  size : a.tmps.size = C.ntmps
  defers : a.defers = []
  sim : Sim C.ν x (look st.m)
  fresh : Fresh st x
theorem Inv.mid {a : Act} {x : X} {env : List Ent} {st : St} (h : Inv C a x env st) (DD : List (Option Nat)) (VS : List Ent) {D : Nat → Prop} (hD : ∀ p, ¬ D p) : Mid C env DD VS D a x :=
  ⟨fun p t hp => absurd hp (hD p), fun p t hp => absurd hp (hD p), fun n t hn _ ho => h.env n t hn ho, h.size, h.defers⟩
theorem commit_len (vs : List Ent) : ∀ (cm : List (Nat × Nat)) (env : List Ent), (commit env vs cm).length = env.length
  | [], env => rfl
  | (s, p) :: r, env => by simp only [commit]; rw [commit_len vs r]; simp
theorem getD_setL {α : Type} (l : List α) (i j : Nat) (v d : α) (h : i < l.length) : (l.set i v).getD j d = if j = i then v else l.getD j d := by
  simp only [List.getD, List.getElem?_set]
  by_cases e : i = j
  · subst e; simp [h]
  · simp [e, Ne.symm e]
theorem commit_get (hnd : C.slots.Nodup) (vs : List Ent) : ∀ (ops : List Oper) (p : Nat) (env : List Ent) (n t : Nat), C.slots[n]? = some t → env.length = C.slots.length →
    ((∀ (j : Nat) (o : Oper), ops[j]? = some o → o.dst ≠ some t) → (commit env vs (C.commits p ops)).getD n .un = env.getD n .un) ∧
    (∀ (j : Nat) (o : Oper), ops[j]? = some o → o.dst = some t → (∀ (j' : Nat) (o' : Oper), ops[j']? = some o' → o'.dst = some t → j' = j) → (commit env vs (C.commits p ops)).getD n .un = vs.getD (p + j) .un)
  | [], p, env, n, t, hn, hl => ⟨fun _ => rfl, fun j o h => by simp at h⟩
  | o :: r, p, env, n, t, hn, hl => by
    have hnl : n < C.slots.length := (List.getElem?_eq_some_iff.1 hn).1
    cases hb : o.dst.bind (idx? C.slots) with
    | none =>
      have e : C.commits p (o :: r) = C.commits (p + 1) r := by simp [CC.commits, hb]
      rw [e]
      obtain ⟨a1, a2⟩ := commit_get hnd vs r (p + 1) env n t hn hl
      have hne : o.dst ≠ some t := fun e => by rw [e, Option.bind_some, idx?_of _ _ _ hnd hn] at hb; cases hb
      refine ⟨fun h => a1 fun j o' hj => h (j + 1) o' (by simpa using hj), fun j o' hj hd hu => ?_⟩
      cases j with
      | zero => simp at hj; subst hj; exact absurd hd hne
      | succ j =>
        rw [show p + (j + 1) = p + 1 + j by omega]
        exact a2 j o' (by simpa using hj) hd fun j' o'' hj' hd' => by have := hu (j' + 1) o'' (by simpa using hj') hd'; omega
    | some s =>
      have e : C.commits p (o :: r) = (s, p) :: C.commits (p + 1) r := by simp [CC.commits, hb]
      rw [e]
      simp only [commit]
      obtain ⟨t', ht', hs⟩ := Option.bind_eq_some_iff.1 hb
      have hsl := idx?_spec _ _ _ hs
      have hslen : s < env.length := by rw [hl]; exact (List.getElem?_eq_some_iff.1 hsl).1
      obtain ⟨a1, a2⟩ := commit_get hnd vs r (p + 1) (env.set s (vs.getD p .un)) n t hn (by simpa using hl)
      have hst : s = n ↔ t' = t := by
        constructor
        · rintro rfl; rw [hsl] at hn; exact Option.some.inj hn
        · rintro rfl
          have := idx?_of _ _ _ hnd hn
          rw [hs] at this; exact Option.some.inj this
      refine ⟨fun h => ?_, fun j o' hj hd hu => ?_⟩
      · have hne : t' ≠ t := fun e => h 0 o (by simp) (by rw [ht', e])
        rw [a1 fun j o' hj => h (j + 1) o' (by simpa using hj), getD_setL _ _ _ _ _ hslen, if_neg (fun e => hne (hst.1 e.symm))]
      · cases j with
        | zero =>
          simp at hj; subst hj
          have ht : t' = t := by rw [ht'] at hd; exact Option.some.inj hd
          rw [a1 fun j o' hj hd' => by have := hu (j + 1) o' (by simpa using hj) hd'; omega, getD_setL _ _ _ _ _ hslen, if_pos (hst.2 ht).symm]; simp
        | succ j =>
          rw [show p + (j + 1) = p + 1 + j by omega]
          exact a2 j o' (by simpa using hj) hd fun j' o'' hj' hd' => by have := hu (j' + 1) o'' (by simpa using hj') hd'; omega
theorem inv_after (hnd : C.slots.Nodup) {ops : Array Oper} {l : List GI} (hsp : Spec C ops.toList l) {env VS : List Ent} {a : Act} {x : X} {st : St} (hlen : env.length = C.slots.length) (hm : Mid C env (ops.toList.map (·.dst)) VS (· < ops.size) a x)
    (hs : Sim C.ν x (look st.m)) (hf : Fresh st x) : Inv C a x (commit env VS (C.commits 0 ops.toList)) st := by
  refine ⟨by rw [commit_len]; exact hlen, fun n t hn ho => ?_, hm.size, hm.defers, hs, hf⟩
  obtain ⟨c1, c2⟩ := commit_get hnd VS ops.toList 0 env n t hn hlen
  by_cases hw : ∃ j : Nat, (ops.toList.map (·.dst))[j]? = some (some t)
  · obtain ⟨j, hj⟩ := hw
    have hj' := hj
    rw [List.getElem?_map, Option.map_eq_some_iff] at hj'
    obtain ⟨o, ho1, ho2⟩ := hj'
    have e := c2 j o ho1 ho2 fun j' o' h1 h2 => hsp.distinct hj (by rw [List.getElem?_map, h1, Option.map_some, h2])
    rw [Nat.zero_add] at e
    rw [e] at ho ⊢
    have hjl : j < ops.size := by simpa using (List.getElem?_eq_some_iff.1 ho1).1
    exact hm.val j t hjl hj ho
  · have hw' : ∀ j : Nat, (ops.toList.map (·.dst))[j]? ≠ some (some t) := fun j e => hw ⟨j, e⟩
    rw [c1 fun j o h1 h2 => hw' j (by rw [List.getElem?_map, h1, Option.map_some, h2])] at ho ⊢
    exact hm.old n t hn (fun p _ => hw' p) ho
theorem ev_sound {a : Act} {x : X} {env : List Ent} {st : St} (h : Inv C a x env st) {c : Operand} {s : Src} (hc : C.src [] c = some s) (hok : (s.ev env []).ok = true) : RD C.ν x (a.eval c) (s.ev env []).d :=
  ((h.mid [] [] (D := fun _ => False) (fun _ h => h)).rho (i := 0) (os := [c]) (fun t p _ hp => by simp at hp)) c (.head _) s (by simpa using hc) (by simpa using hok)
def Ex.of : Ex → Exit
  | .normal => .normal
  | .exit id => .exit id
  | .ret => .ret
def Post (C : CC) (Q : Ex → List Ent → St → Prop) (x0 : X) : Exit → Act → World → Prop := fun e a w => ∃ e' x' env' st', Ex.of e' = e ∧ x'.w = w ∧ Step x0 x' ∧ Inv C a x' env' st' ∧ Q e' env' st'
theorem Inv.weak {a : Act} {x : X} {env env' : List Ent} {nx : Nat} {m m' : List (Nat × Blk)} (h : Inv C a x env ⟨nx, m⟩) (hl : leE env env') (hm : subM m m') : Inv C a x env' ⟨nx, m'⟩ := by
  have hle : ∀ (e e' : List Ent), leE e e' → e'.length = e.length ∧ ∀ n, e'.getD n .un = e.getD n .un ∨ e'.getD n .un = .un := by
    intro e
    induction e with
    | nil => intro e' h; cases e' <;> simp_all [leE]
    | cons b r ih =>
      intro e' h
      cases e' with
      | nil => simp [leE] at h
      | cons b' r' =>
        simp only [leE] at h
        obtain ⟨i1, i2⟩ := ih r' h.2
        refine ⟨by simp [i1], fun n => ?_⟩
        cases n with
        | zero => simpa using h.1
        | succ n => simpa using i2 n
  have hsub : ∀ (m' : List (Nat × Blk)), subM m m' → ∀ l b, look m' l = some b → look m l = some b := by
    intro m'
    induction m' with
    | nil => intro _ l b h; simp [look] at h
    | cons p r ih =>
      obtain ⟨l0, b0⟩ := p
      intro hs l b h
      simp only [subM] at hs
      simp only [look] at h
      split at h
      · rename_i e; subst e; rw [hs.1]; exact h
      · exact ih hs.2 l b h
  obtain ⟨l1, l2⟩ := hle env env' hl
  refine ⟨l1.trans h.len, fun n t hn ho => ?_, h.size, h.defers, h.sim.less fun l => ?_, h.fresh.β, fun l hl' => ?_⟩
  · rcases l2 n with e | e
    · rw [e] at ho ⊢; exact h.env n t hn ho
    · rw [e]; exact .any _
  · cases hl' : look m' l with
    | none => exact .inr (.inl rfl)
    | some b => exact .inl (hsub m' hm l b hl').symm
  · cases hl2 : look m' l with
    | none => exact absurd hl2 hl'
    | some b => exact h.fresh.m l (by show look m l ≠ none; rw [hsub m' hm l b hl2]; simp)
theorem fzD_cells (l k : Nat) (es : List D) (d : D) : (fzD l k es d).cells.length = d.cells.length ∧ ∀ j, (fzD l k es d).cells.getD j .any = fzD l k es (d.cells.getD j .any) := by
  cases d
  case agg cs => exact ⟨by simp [fzD, D.cells, fzL_len], fun j => by simp only [fzD, D.cells]; exact fzL_getD l k es cs j⟩
  case own l' k' i n =>
    simp only [fzD]
    split
    · rename_i h; exact ⟨rfl, fun j => by cases j <;> simp [D.cells, fzD, h]⟩
    · rename_i h; exact ⟨rfl, fun j => by cases j <;> simp [D.cells, fzD, h]⟩
  case ptr l' k' i o =>
    simp only [fzD]
    split
    · rename_i h; exact ⟨rfl, fun j => by cases j <;> simp [D.cells, fzD, h]⟩
    · rename_i h; exact ⟨rfl, fun j => by cases j <;> simp [D.cells, fzD, h]⟩
  all_goals exact ⟨by simp [fzD, D.cells], fun j => by cases j <;> simp [fzD, D.cells]⟩
theorem fzE_len (l k : Nat) (es : List D) : ∀ e : List Ent, (fzE l k es e).length = e.length
  | [] => rfl
  | ⟨ok, d⟩ :: r => by simp [fzE, fzE_len l k es r]
theorem fzE_getD (l k : Nat) (es : List D) : ∀ (e : List Ent) (i : Nat), (fzE l k es e).getD i .un = ⟨(e.getD i .un).ok, fzD l k es (e.getD i .un).d⟩
  | [], i => by simp [fzE, fzD, Ent.un]
  | ⟨ok, d⟩ :: r, 0 => by simp [fzE]
  | ⟨ok, d⟩ :: r, i + 1 => by simpa [fzE] using fzE_getD l k es r i
theorem look_fzM (l k : Nat) (es : List D) (l' : Nat) : ∀ m : List (Nat × Blk), look (fzM l k es m) l' = (look m l').map (fzB l k es)
  | [] => rfl
  | (a, b) :: r => by
    simp only [fzM, look]
    split
    · rfl
    · exact look_fzM l k es l' r
theorem Inv.frz {a : Act} {x : X} {env : List Ent} {nx : Nat} {m : List (Nat × Blk)} (h : Inv C a x env ⟨nx, m⟩) (l : Nat) : ∃ x' : X, x'.w = x.w ∧ Step x x' ∧ Inv C a x' (Abs.frz l (env, m)).1 ⟨nx, (Abs.frz l (env, m)).2⟩ := by
  have hsame : ∃ x' : X, x'.w = x.w ∧ Step x x' ∧ Inv C a x' env ⟨nx, m⟩ := ⟨x, rfl, .refl x, h⟩
  simp only [Abs.frz]
  split
  · rename_i k es hlk
    cases hn : noLocs es with
    | false => exact hsame
    | true =>
      simp only [cond_true]
      let x' : X := ⟨x.w, fun b => x.I b ∨ ∃ p, x.β l = some p ∧ p.1 = b, x.β⟩
      have hle : Le x x' := ⟨fun _ h => .inl h, fun _ _ => rfl, fun _ _ h => h⟩
      have ho : ∀ b base tot, x.β l = some (b, base, tot) → x'.I b ∧ (∀ i, i < es.length → (es.getD i .any).cells.length = k) ∧ ∃ c : Nat → Nat → Value, ∀ i j, i < es.length → j < k →
          x'.w.cell? ⟨b, base + i * k + j, none⟩ = some (c i j) ∧ (c i j).oneCell' = true ∧ RD C.ν x' (c i j) ((es.getD i .any).cells.getD j .any) := by
        intro b base tot hβ
        obtain ⟨o1, o2, o3, c, T, fr, o4, o5, o6, o7⟩ := h.sim.own l _ b base tot hlk hβ
        refine ⟨.inr ⟨_, hβ, rfl⟩, fun i hi => (o7 i hi).1, fun i j => c.getD (base + i * k + j) undef, fun i j hi hj => ⟨?_, ((o7 i hi).2 j hj).1, ((o7 i hi).2 j hj).2.mono hle⟩⟩
        exact cell_of_heap o4 (by have := idx_lt (tot := tot) (show i < tot by omega) hj; omega)
      have hrd : ∀ {v : Value} {d : D}, RD C.ν x v d → RD C.ν x' v (fzD l k es d) := fun hv => hv.fz hle hn ho
      refine ⟨x', rfl, ⟨rfl, rfl, rfl, Nat.le_refl _, fun _ h => .inl h, fun _ _ => rfl, fun _ _ h => h, fun _ _ _ => rfl, fun b hb => ?_, fun _ _ h => .inl h⟩, ?_⟩
      · rcases hb with hb | ⟨p, h1, h2⟩
        · exact .inl hb
        · exact .inr (.inr ⟨l, p, h1, h2⟩)
      · have hlook : ∀ l', look (fzM l k es (delL m l)) l' = if l' = l then none else (look m l').map (fzB l k es) := fun l' => by
          rw [look_fzM, look_delL]; split <;> rfl
        refine ⟨by rw [fzE_len]; exact h.len, fun n t hn' hok => ?_, h.size, h.defers, ⟨fun l' blk b base tot e1 e2 => ?_, fun l1 l2 b base tot base' tot' e1 e2 e3 e4 => ?_, fun b hb => ?_, h.sim.bnd, gd_le hle h.sim.gd⟩, ⟨h.fresh.β, fun l' hl' => ?_⟩⟩
        · rw [fzE_getD] at hok ⊢
          exact hrd (h.env n t hn' hok)
        · simp only [hlook] at e1
          split at e1
          · cases e1
          · rename_i hne
            rw [Option.map_eq_some_iff] at e1
            obtain ⟨blk0, e3, rfl⟩ := e1
            obtain ⟨o1, o2⟩ := h.sim.own l' blk0 b base tot e3 e2
            refine ⟨?_, ?_⟩
            · rintro (hb | ⟨⟨b', base', tot'⟩, h1, h2⟩)
              · exact o1 hb
              · simp only at h2; subst h2
                exact hne (h.sim.inj l' l b' base tot base' tot' (by simp only; rw [e3]; simp) (by simp only; rw [hlk]; simp) e2 h1)
            · cases blk0 with
              | iter s pos => exact o2
              | buf k' es' =>
                obtain ⟨p1, p2, c, T, fr, p3, p4, p5, p6⟩ := o2
                refine ⟨p1, by rw [fzL_len]; exact p2, c, T, fr, p3, p4, p5, fun i hi => ?_⟩
                rw [fzL_len] at hi
                obtain ⟨q1, q2⟩ := fzD_cells l k es (es'.getD i .any)
                rw [fzL_getD, q1]
                refine ⟨(p6 i hi).1, fun j hj => ⟨((p6 i hi).2 j hj).1, ?_⟩⟩
                rw [q2]
                exact hrd ((p6 i hi).2 j hj).2
        · simp only [hlook] at e1 e2
          refine h.sim.inj l1 l2 b base tot base' tot' ?_ ?_ e3 e4
          · intro e; simp [e] at e1
          · intro e; simp [e] at e2
        · rcases hb with hb | ⟨⟨b', base', tot'⟩, h1, h2⟩
          · exact h.sim.imm b hb
          · simp only at h2; subst h2; exact h.sim.bnd l _ _ _ h1
        · simp only [hlook] at hl'
          refine h.fresh.m l' ?_
          intro e; simp only at e; simp [e] at hl'
  · exact hsame
theorem rnDs_len {lo : Nat} {σ : List (Nat × Nat)} : ∀ {ds ds' : List D}, rnDs lo σ ds = some ds' → ds'.length = ds.length ∧ ∀ i, i < ds.length → rnD lo σ (ds.getD i .any) = some (ds'.getD i .any)
  | [], ds', h => by simp [rnDs] at h; subst h; exact ⟨rfl, fun i hi => by simp at hi⟩
  | d :: r, ds', h => by
    simp only [rnDs] at h
    split at h
    · rename_i d' r' h1 h2
      simp only [Option.some.injEq] at h
      subst h
      obtain ⟨a1, a2⟩ := rnDs_len h2
      refine ⟨by simp [a1], fun i hi => ?_⟩
      cases i with
      | zero => simpa using h1
      | succ i => simpa using a2 i (by simpa using hi)
    · cases h
theorem rnL_some {lo : Nat} {σ : List (Nat × Nat)} {l : Nat} {f : Nat → D} {d : D} (h : rnL lo σ l f = some d) : ∃ l', rnN lo σ l = some l' ∧ d = f l' := by
  unfold rnL at h
  split at h
  · rename_i l' h1; exact ⟨l', h1, (Option.some.inj h).symm⟩
  · cases h
theorem rnN_spec {lo c : Nat} : ∀ {σ : List (Nat × Nat)} {l l' : Nat}, RnOK lo c σ = true → rnN lo σ l = some l' → l' < c ∧ (l < lo ∧ l' = l ∨ lo ≤ l ∧ lo ≤ l' ∧ (l, l') ∈ σ)
  | [], l, l', h0, h => by
    unfold rnN at h
    simp only [RnOK, Nat.ble_eq] at h0
    cases hb : Nat.blt l lo <;> simp only [hb, cond_true, cond_false, reduceCtorEq, Option.some.injEq] at h
    have : l < lo := by simp [Nat.blt] at hb; omega
    subst h; exact ⟨by omega, .inl ⟨this, rfl⟩⟩
  | (a, b) :: r, l, l', h0, h => by
    unfold rnN at h
    simp only [RnOK, Bool.and_eq_true, Nat.ble_eq] at h0
    obtain ⟨p1, p2, p3, p4, p5⟩ := h0
    have p3 : b < c := by simp [Nat.blt] at p3; omega
    have hlo : lo ≤ c := by omega
    cases hb : Nat.blt l lo <;> simp only [hb, cond_true, cond_false, Option.some.injEq] at h
    · have hll : lo ≤ l := by
        rcases Nat.lt_or_ge l lo with h | h
        · have : Nat.blt l lo = true := by simp [Nat.blt]; omega
          rw [this] at hb; cases hb
        · exact h
      cases hq : Nat.beq a l <;> simp only [hq, cond_true, cond_false, Option.some.injEq] at h
      · obtain ⟨q1, q2⟩ := rnN_spec p5 h
        refine ⟨q1, ?_⟩
        rcases q2 with ⟨q, _⟩ | ⟨q2, q3, q4⟩
        · omega
        · exact .inr ⟨q2, q3, .tail _ q4⟩
      · have := Nat.eq_of_beq_eq_true hq
        subst this; subst h
        exact ⟨p3, .inr ⟨hll, p2, .head _⟩⟩
    · have : l < lo := by simp [Nat.blt] at hb; omega
      subst h; exact ⟨by omega, .inl ⟨this, rfl⟩⟩
theorem RnOK_lt {lo c : Nat} : ∀ {σ : List (Nat × Nat)} {a b : Nat}, RnOK lo c σ = true → (a, b) ∈ σ → b < c
  | [], a, b, _, h => by cases h
  | p :: r, a, b, h0, h => by
    simp only [RnOK, Bool.and_eq_true, Nat.blt, Nat.ble_eq] at h0
    rcases List.mem_cons.1 h with rfl | h
    · have := h0.2.2.1; simp only at this; omega
    · exact RnOK_lt h0.2.2.2.2 h
theorem RnOK_inj {lo c : Nat} : ∀ {σ : List (Nat × Nat)} {a a' b b' : Nat}, RnOK lo c σ = true → (a, b) ∈ σ → (a', b') ∈ σ → (b = b' → a = a')
  | [], a, a', b, b', _, h, _ => by cases h
  | (a0, b0) :: r, a, a', b, b', h0, h1, h2 => by
    simp only [RnOK, Bool.and_eq_true, List.all_eq_true, Bool.not_eq_true'] at h0
    obtain ⟨_, _, _, p4, p5⟩ := h0
    intro e
    rcases List.mem_cons.1 h1 with h1 | h1 <;> rcases List.mem_cons.1 h2 with h2 | h2
    · simp only [Prod.mk.injEq] at h1 h2; omega
    · have := (p4 _ h2).2; simp only [Prod.mk.injEq] at h1; obtain ⟨rfl, rfl⟩ := h1; subst e; simp at this
    · have := (p4 _ h1).2; simp only [Prod.mk.injEq] at h2; obtain ⟨rfl, rfl⟩ := h2; subst e; simp at this
    · exact RnOK_inj p5 h1 h2 e
def invN : List (Nat × Nat) → Nat → Option Nat
  | [], _ => none
  | (a, b) :: r, l => if b = l then some a else invN r l
theorem invN_mem : ∀ {σ : List (Nat × Nat)} {l a : Nat}, invN σ l = some a → (a, l) ∈ σ
  | [], l, a, h => by cases h
  | (a0, b0) :: r, l, a, h => by
    simp only [invN] at h
    split at h
    · rename_i e; subst e; obtain rfl := Option.some.inj h; exact .head _
    · exact .tail _ (invN_mem h)
theorem invN_of {lo c : Nat} : ∀ {σ : List (Nat × Nat)} {l a : Nat}, RnOK lo c σ = true → (a, l) ∈ σ → invN σ l = some a
  | [], l, a, _, h => by cases h
  | (a0, b0) :: r, l, a, h0, h => by
    simp only [invN]
    split
    · rename_i e; subst e; rw [RnOK_inj h0 (.head _) h rfl]
    · rename_i e
      rcases List.mem_cons.1 h with h | h
      · simp only [Prod.mk.injEq] at h; exact absurd h.2.symm e
      · simp only [RnOK, Bool.and_eq_true] at h0; exact invN_of h0.2.2.2.2 h
theorem rnD_cells {lo : Nat} {σ : List (Nat × Nat)} {d d' : D} (h : rnD lo σ d = some d') : d'.cells.length = d.cells.length ∧ ∀ j, j < d.cells.length → rnD lo σ (d.cells.getD j .any) = some (d'.cells.getD j .any) := by
  cases d
  case agg cs =>
    simp only [rnD] at h
    split at h
    · rename_i cs' h1
      obtain rfl := Option.some.inj h
      exact rnDs_len h1
    · cases h
  case tup cs =>
    simp only [rnD] at h
    split at h
    · obtain rfl := Option.some.inj h; exact ⟨rfl, fun j hj => by simp [D.cells] at hj⟩
    · cases h
  case fn f cs =>
    have h0 := h
    simp only [rnD] at h
    split at h
    · obtain rfl := Option.some.inj h; exact ⟨rfl, fun j hj => by simp [D.cells] at hj; subst hj; simpa [D.cells] using h0⟩
    · cases h
  case own l k i n =>
    have h0 := h
    simp only [rnD] at h
    obtain ⟨l', _, rfl⟩ := rnL_some h
    exact ⟨rfl, fun j hj => by simp [D.cells] at hj; subst hj; simpa [D.cells] using h0⟩
  case ptr l k i n =>
    have h0 := h
    simp only [rnD] at h
    obtain ⟨l', _, rfl⟩ := rnL_some h
    exact ⟨rfl, fun j hj => by simp [D.cells] at hj; subst hj; simpa [D.cells] using h0⟩
  case it l =>
    have h0 := h
    simp only [rnD] at h
    obtain ⟨l', _, rfl⟩ := rnL_some h
    exact ⟨rfl, fun j hj => by simp [D.cells] at hj; subst hj; simpa [D.cells] using h0⟩
  all_goals
    have h0 := h
    simp only [rnD, Option.some.injEq] at h
    subst h
    exact ⟨rfl, fun j hj => by simp [D.cells] at hj <;> (subst hj; simpa [D.cells] using h0)⟩
theorem RD.rn {ν : List (Nat × Nat)} {x x' : X} {lo : Nat} {σ : List (Nat × Nat)} (hw : x'.w = x.w) (hI : x'.I = x.I) (hβ : ∀ l l', rnN lo σ l = some l' → x'.β l' = x.β l) {v : Value} {d : D} (h : RD ν x v d) : ∀ d', rnD lo σ d = some d' → RD ν x' v d' := by
  have hk : ∀ b, x.I b → x'.w.heap[b]? = x.w.heap[b]? := fun _ _ => by rw [hw]
  have hI' : ∀ b, x.I b → x'.I b := fun b h => by rw [hI]; exact h
  induction h with
  | any v => intro d' h; obtain rfl := Option.some.inj h; exact .any v
  | bool b => intro d' h; obtain rfl := Option.some.inj h; exact .bool b
  | int k n => intro d' h; obtain rfl := Option.some.inj h; exact .int k n
  | str s h0 => intro d' h; obtain rfl := Option.some.inj h; exact .str s h0
  | nils => intro d' h; obtain rfl := Option.some.inj h; exact .nils
  | nilp => intro d' h; obtain rfl := Option.some.inj h; exact .nilp
  | nilf => intro d' h; obtain rfl := Option.some.inj h; exact .nilf
  | sl a b off len cap k' es' c hlen ha hcap hm hk' hn' hc h1 h _ =>
    intro d' h2; obtain rfl := Option.some.inj h2
    exact (RD.sl a b off len cap k' es' c hlen ha hcap hm hk' hn' hc h1 h).noLoc rfl hI' hk
  | ref b off k' i o at_ es' c hI0 hat hk' hn' hc h1 h _ =>
    intro d' h2; obtain rfl := Option.some.inj h2
    exact (RD.ref b off k' i o at_ es' c hI0 hat hk' hn' hc h1 h).noLoc rfl hI' hk
  | agg cs ds hl' h1 _ ih =>
    intro d' h
    simp only [rnD] at h
    split at h
    · rename_i cs' h2
      obtain rfl := Option.some.inj h
      obtain ⟨a1, a2⟩ := rnDs_len h2
      exact .agg cs cs' (by omega) (fun i hi => h1 i (by omega)) fun i hi => ih i (by omega) _ (a2 i (by omega))
    · cases h
  | tup cs ds hl' _ ih =>
    intro d' h
    simp only [rnD] at h
    split at h
    · rename_i cs' h2
      obtain rfl := Option.some.inj h
      obtain ⟨a1, a2⟩ := rnDs_len h2
      exact .tup cs cs' (by omega) fun i hi => ih i (by omega) _ (a2 i (by omega))
    · cases h
  | fn fid n cs ds hν hl' _ ih =>
    intro d' h
    simp only [rnD] at h
    split at h
    · rename_i cs' h2
      obtain rfl := Option.some.inj h
      obtain ⟨a1, a2⟩ := rnDs_len h2
      exact .fn fid n cs cs' hν (by omega) fun i hi => ih i (by omega) _ (a2 i (by omega))
    · cases h
  | ptr l k i o b base tot at_ hb hat =>
    intro d' h
    obtain ⟨l', h1, rfl⟩ := rnL_some h
    exact .ptr l' k i o b base tot at_ ((hβ _ _ h1).trans hb) hat
  | own l k i n b base tot cap a hb ha hcap hm ht =>
    intro d' h
    obtain ⟨l', h1, rfl⟩ := rnL_some h
    exact .own l' k i n b base tot cap a ((hβ _ _ h1).trans hb) ha hcap hm ht
  | own0 l k i =>
    intro d' h
    obtain ⟨l', h1, rfl⟩ := rnL_some h
    exact .own0 l' k i
  | it l b base tot hb =>
    intro d' h
    obtain ⟨l', h1, rfl⟩ := rnL_some h
    exact .it l' b base tot ((hβ _ _ h1).trans hb)
theorem NlDs_len : ∀ {ds ds' : List D}, NlDs ds ds' → ds'.length = ds.length ∧ ∀ i, i < ds.length → NlD (ds.getD i .any) (ds'.getD i .any)
  | [], ds', h => by simp only [NlDs] at h; subst h; exact ⟨rfl, fun i hi => by simp at hi⟩
  | d :: r, ds', h => by
    simp only [NlDs] at h
    obtain ⟨d', r', rfl, h1, h2⟩ := h
    obtain ⟨a1, a2⟩ := NlDs_len h2
    refine ⟨by simp [a1], fun i hi => ?_⟩
    cases i with
    | zero => simpa using h1
    | succ i => simpa using a2 i (by simpa using hi)
theorem NlD_cells {d d' : D} (h : NlD d d') : d'.cells.length = d.cells.length ∧ ∀ j, j < d.cells.length → NlD (d.cells.getD j .any) (d'.cells.getD j .any) := by
  cases d
  case agg a =>
    simp only [NlD] at h
    obtain ⟨b, rfl, h⟩ := h
    exact NlDs_len h
  case nils =>
    have h0 := h
    simp only [NlD] at h
    rcases h with rfl | ⟨l, k, i, rfl⟩
    · exact ⟨rfl, fun j hj => by simp [D.cells] at hj; subst hj; simpa [D.cells] using h0⟩
    · exact ⟨rfl, fun j hj => by simp [D.cells] at hj; subst hj; simpa [D.cells] using h0⟩
  all_goals
    have h0 := h
    simp only [NlD] at h
    obtain ⟨rfl, hn⟩ := h
    refine ⟨rfl, fun j hj => ?_⟩
    simp [D.cells] at hj
    try (subst hj; simpa [D.cells] using h0)
theorem RD.nl {ν : List (Nat × Nat)} {x x' : X} (hw : x'.w = x.w) (hI : x'.I = x.I) {v : Value} {d : D} (h : RD ν x v d) : ∀ d', NlD d d' → RD ν x' v d' := by
  have hk : ∀ b, x.I b → x'.w.heap[b]? = x.w.heap[b]? := fun _ _ => by rw [hw]
  have hI' : ∀ b, x.I b → x'.I b := fun b h => by rw [hI]; exact h
  induction h with
  | nils =>
    intro d' h2
    simp only [NlD] at h2
    rcases h2 with rfl | ⟨l, k, i, rfl⟩
    · exact .nils
    · exact .own0 l k i
  | agg cs ds hl' h1 _ ih =>
    intro d' h
    simp only [NlD] at h
    obtain ⟨b, rfl, h⟩ := h
    obtain ⟨a1, a2⟩ := NlDs_len h
    exact .agg cs b (by omega) (fun i hi => h1 i (by omega)) fun i hi => ih i (by omega) _ (a2 i (by omega))
  | any v => intro d' h; simp only [NlD] at h; rw [h.1]; exact .any v
  | bool b => intro d' h; simp only [NlD] at h; rw [h.1]; exact .bool b
  | int k n => intro d' h; simp only [NlD] at h; rw [h.1]; exact .int k n
  | str s h0 => intro d' h; simp only [NlD] at h; rw [h.1]; exact .str s h0
  | tup cs ds hl' h0 _ => intro d' h; simp only [NlD] at h; rw [h.1]; exact (RD.tup cs ds hl' h0).noLoc h.2 hI' hk
  | sl a b off len cap k' es' c hlen ha hcap hm hk' hn' hc h1 h0 _ =>
    intro d' h2; simp only [NlD] at h2; rw [h2.1]
    exact (RD.sl a b off len cap k' es' c hlen ha hcap hm hk' hn' hc h1 h0).noLoc h2.2 hI' hk
  | ref b off k' i o at_ es' c hI0 hat hk' hn' hc h1 h0 _ =>
    intro d' h2; simp only [NlD] at h2; rw [h2.1]
    exact (RD.ref b off k' i o at_ es' c hI0 hat hk' hn' hc h1 h0).noLoc h2.2 hI' hk
  | nilp => intro d' h; simp only [NlD] at h; rw [h.1]; exact .nilp
  | nilf => intro d' h; simp only [NlD] at h; rw [h.1]; exact .nilf
  | fn fid n cs ds hν hl' h0 _ => intro d' h; simp only [NlD] at h; rw [h.1]; exact (RD.fn fid n cs ds hν hl' h0).noLoc h.2 hI' hk
  | ptr => intro d' h; simp only [NlD] at h; simp [D.noLoc] at h
  | own => intro d' h; simp only [NlD] at h; simp [D.noLoc] at h
  | own0 => intro d' h; simp only [NlD] at h; simp [D.noLoc] at h
  | it => intro d' h; simp only [NlD] at h; simp [D.noLoc] at h
theorem RnE_spec {lo : Nat} {σ : List (Nat × Nat)} : ∀ {e e' : List Ent}, RnE lo σ e e' → e'.length = e.length ∧ ∀ n, (e'.getD n .un).ok = (e.getD n .un).ok ∧ RnD lo σ (e.getD n .un).d (e'.getD n .un).d ∨ e'.getD n .un = .un
  | [], [], _ => ⟨rfl, fun n => .inr (by simp)⟩
  | [], _ :: _, h => h.elim
  | _ :: _, [], h => h.elim
  | a :: r, b :: s, h => by
    simp only [RnE] at h
    obtain ⟨i1, i2⟩ := RnE_spec h.2
    refine ⟨by simp [i1], fun n => ?_⟩
    cases n with
    | zero => simpa using h.1
    | succ n => simpa using i2 n
theorem RnM_spec {lo c : Nat} {σ : List (Nat × Nat)} {m : List (Nat × Blk)} : ∀ {m' : List (Nat × Blk)}, RnM lo c σ m m' → ∀ l' b', look m' l' = some b' → (∃ l b, rnN lo σ l = some l' ∧ look m l = some b ∧ RnB lo σ b b') ∨ (Nat.ble lo l' = true ∧ Nat.blt l' c = true ∧ σ.all (fun p => !Nat.beq p.2 l') = true ∧ ∃ k, b' = .buf k [])
  | [], _, l', b', h => by simp [look] at h
  | (l0, b0) :: r, hh, l', b', h => by
    simp only [RnM] at hh
    simp only [look] at h
    split at h
    · rename_i e; subst e; obtain rfl := Option.some.inj h; exact hh.1
    · exact RnM_spec hh.2 l' b' h
theorem invN_none : ∀ {σ : List (Nat × Nat)} {l : Nat}, σ.all (fun p => !Nat.beq p.2 l) = true → invN σ l = none
  | [], l, _ => rfl
  | (a, b) :: r, l, h => by
    simp only [List.all_cons, Bool.and_eq_true, Bool.not_eq_true'] at h
    simp only [invN]
    rw [if_neg (fun e => by subst e; simp at h), invN_none h.2]
theorem Inv.ren {a : Act} {x0 x : X} {env env' : List Ent} {nx : Nat} {m m' : List (Nat × Blk)} {lo c : Nat} {σ : List (Nat × Nat)} (h : Inv C a x env ⟨nx, m⟩) (hs : Step x0 x) (hlo : ∀ l, lo ≤ l → x0.β l = none) (hok : RnOK lo c σ = true) (he : RnE lo σ env env') (hm : RnM lo c σ m m') :
    ∃ x' : X, x'.w = x.w ∧ Step x0 x' ∧ Inv C a x' env' ⟨c, m'⟩ := by
  let x' : X := ⟨x.w, x.I, fun l' => if l' < lo then x.β l' else (invN σ l').bind x.β⟩
  have hβ : ∀ l l', rnN lo σ l = some l' → x'.β l' = x.β l := by
    intro l l' e
    obtain ⟨p1, p2⟩ := rnN_spec hok e
    rcases p2 with ⟨p2, rfl⟩ | ⟨p2, p3, p4⟩
    · simp only [x', if_pos p2]
    · simp only [x', if_neg (Nat.not_lt.2 p3), invN_of hok p4, Option.bind_some]
  have hβi : ∀ l' p, x'.β l' = some p → ∃ l, x.β l = some p := by
    intro l' p e
    simp only [x'] at e
    split at e
    · exact ⟨l', e⟩
    · obtain ⟨l, _, h2⟩ := Option.bind_eq_some_iff.1 e; exact ⟨l, h2⟩
  have hrd : ∀ {v : Value} {d d' : D}, RD C.ν x v d → RnD lo σ d d' → RD C.ν x' v d' := by
    intro v d d' hv hd
    rcases hd with ⟨rfl, hn⟩ | hd | hd
    · exact hv.noLoc hn (fun _ h => h) (fun _ _ => rfl)
    rotate_left
    · exact RD.nl (x := x) (x' := x') rfl rfl hv _ hd
    · exact RD.rn (x := x) (x' := x') rfl rfl hβ hv _ hd
  obtain ⟨e1, e2⟩ := RnE_spec he
  have hm1 := RnM_spec hm
  have hm2 : ∀ l' b' p, look m' l' = some b' → x'.β l' = some p → ∃ l b, rnN lo σ l = some l' ∧ look m l = some b ∧ RnB lo σ b b' := by
    intro l' b' p h1 h2
    rcases hm1 l' b' h1 with h3 | ⟨q1, q2, q3, q4⟩
    · exact h3
    · have q1 : lo ≤ l' := by simpa using q1
      simp only [x', if_neg (show ¬ l' < lo by omega), invN_none q3, Option.bind_none] at h2
      cases h2
  refine ⟨x', rfl, ⟨hs.os, hs.tape, hs.output, hs.size, hs.I, hs.keep, fun l p hp => ?_, hs.old, hs.newI, fun l' p hp => ?_⟩, ⟨e1.trans h.len, fun n t hn ho => ?_, h.size, h.defers, ⟨fun l' blk b base tot e3 e4 => ?_, fun l1 l2 b base tot base' tot' e3 e4 e5 e6 => ?_, h.sim.imm, fun l' b base tot e => ?_, Glob.le x _ (fun _ h => h) (fun _ _ => rfl) h.sim.gd⟩, ⟨fun l' hl' => ?_, fun l' hl' => ?_⟩⟩⟩
  · have hl : l < lo := by
      rcases Nat.lt_or_ge l lo with h1 | h1
      · exact h1
      · rw [hlo l h1] at hp; cases hp
    simp only [x', if_pos hl]; exact hs.β l p hp
  · obtain ⟨l, hl⟩ := hβi l' p hp
    rcases hs.newβ l p hl with h1 | h1 | h1
    · exact .inr (.inr ⟨l, p, h1, rfl⟩)
    · exact .inr (.inl h1)
    · exact .inr (.inr h1)
  · rcases e2 n with ⟨q1, q2⟩ | q
    · rw [q1] at ho; exact hrd (h.env n t hn ho) q2
    · rw [q]; exact .any _
  · obtain ⟨l, b0, q1, q2, q3⟩ := hm2 l' blk _ e3 e4
    rw [hβ l l' q1] at e4
    obtain ⟨o1, o2⟩ := h.sim.own l b0 b base tot q2 e4
    refine ⟨o1, ?_⟩
    cases b0 with
    | iter s p =>
      cases blk with
      | iter s' p' => simp only [RnB] at q3; obtain ⟨rfl, rfl⟩ := q3; exact o2
      | buf k' es' => simp [RnB] at q3
    | buf k es =>
      cases blk with
      | iter s' p' => simp [RnB] at q3
      | buf k' es' =>
        simp only [RnB] at q3
        obtain ⟨rfl, q3⟩ := q3
        obtain ⟨p1, p2, cc, T, fr, p3, p4, p5, p6⟩ := o2
        rcases q3 with ⟨rfl, hn⟩ | q3 | q3
        · exact ⟨p1, p2, cc, T, fr, p3, p4, p5, fun i hi => ⟨(p6 i hi).1, fun j hj => ⟨((p6 i hi).2 j hj).1, ((p6 i hi).2 j hj).2.noLoc (noLoc_cell (noLocs_getD hn i) j) (fun _ h => h) (fun _ _ => rfl)⟩⟩⟩
        rotate_left
        · obtain ⟨r1, r2⟩ := NlDs_len q3
          refine ⟨p1, by omega, cc, T, fr, p3, p4, p5, fun i hi => ?_⟩
          have hi' : i < es.length := by omega
          obtain ⟨s1, s2⟩ := NlD_cells (r2 i hi')
          refine ⟨s1.trans (p6 i hi').1, fun j hj => ⟨((p6 i hi').2 j hj).1, hrd ((p6 i hi').2 j hj).2 (.inr (.inr (s2 j (by rw [(p6 i hi').1]; exact hj))))⟩⟩
        · obtain ⟨r1, r2⟩ := rnDs_len q3
          refine ⟨p1, by omega, cc, T, fr, p3, p4, p5, fun i hi => ?_⟩
          have hi' : i < es.length := by omega
          obtain ⟨s1, s2⟩ := rnD_cells (r2 i hi')
          refine ⟨s1.trans (p6 i hi').1, fun j hj => ⟨((p6 i hi').2 j hj).1, hrd ((p6 i hi').2 j hj).2 (.inr (.inl (s2 j (by rw [(p6 i hi').1]; exact hj))))⟩⟩
  · cases f1 : look m' l1 with
    | none => simp only at e3; exact absurd f1 e3
    | some b1 =>
      cases f2 : look m' l2 with
      | none => simp only at e4; exact absurd f2 e4
      | some b2 =>
        obtain ⟨l1', b1', q1, q2, _⟩ := hm2 l1 b1 _ f1 e5
        obtain ⟨l2', b2', r1, r2, _⟩ := hm2 l2 b2 _ f2 e6
        rw [hβ _ _ q1] at e5
        rw [hβ _ _ r1] at e6
        have := h.sim.inj l1' l2' b base tot base' tot' (by simp only; rw [q2]; simp) (by simp only; rw [r2]; simp) e5 e6
        subst this
        rw [q1] at r1
        exact Option.some.inj r1
  · obtain ⟨l, hl⟩ := hβi l' _ e
    exact h.sim.bnd l b base tot hl
  · have hc : lo ≤ c := by
      clear hβ hrd e2 hm2 he hm
      induction σ with
      | nil => simpa [RnOK] using hok
      | cons p r ih => simp only [RnOK, Bool.and_eq_true, Nat.ble_eq, Nat.blt] at hok; omega
    have hl'' : c ≤ l' := hl'
    simp only [x', if_neg (show ¬ l' < lo by omega)]
    cases hi : invN σ l' with
    | none => rfl
    | some l =>
      have hmem := invN_mem hi
      have := RnOK_lt hok hmem
      omega
  · cases f1 : look m' l' with
    | none => simp only at hl'; exact absurd f1 hl'
    | some b1 =>
      rcases hm1 l' b1 f1 with ⟨l, b, q1, _⟩ | ⟨_, q2, _⟩
      · exact (rnN_spec hok q1).1
      · simp only; simp [Nat.blt] at q2; omega
theorem Inv.ghost {a : Act} {x0 : X} {lo : Nat} {env env' : List Ent} {st st' : St} (hlo : ∀ l, lo ≤ l → x0.β l = none) (g : Ghost lo env st env' st') : ∀ {x : X}, Inv C a x env st → Step x0 x → ∃ x' : X, x'.w = x.w ∧ Step x0 x' ∧ Inv C a x' env' st' := by
  induction g with
  | refl env st => intro x h hs; exact ⟨x, rfl, hs, h⟩
  | frz l env st =>
    intro x h hs
    obtain ⟨x', a1, a2, a3⟩ := Inv.frz (nx := st.nx) (m := st.m) h l
    exact ⟨x', a1, hs.trans a2, a3⟩
  | ren σ c env env' nx m m' h0 he hm => intro x h hs; exact h.ren hs hlo h0 he hm
  | wk env env' nx m m' he hm => intro x h hs; exact ⟨x, rfl, hs, h.weak he hm⟩
  | trans env1 env2 env3 st1 st2 st3 g1 g2 ih1 ih2 =>
    intro x h hs
    obtain ⟨x1, a1, a2, a3⟩ := ih1 h hs
    obtain ⟨x2, b1, b2, b3⟩ := ih2 a3 a2
    exact ⟨x2, b1.trans a1, b2, b3⟩
theorem least {p : Nat → Prop} (h : ∃ n, p n) : ∃ n, p n ∧ ∀ m, p m → n ≤ m := by
  obtain ⟨n, hn⟩ := h
  induction n using Nat.strongRecOn with
  | _ n ih =>
    by_cases h : ∃ m, m < n ∧ p m
    · obtain ⟨m, h1, h2⟩ := h; exact ih m h1 h2
    · exact ⟨n, hn, fun m hm => by
        rcases Nat.lt_or_ge m n with h1 | h1
        · exact absurd ⟨m, h1, hm⟩ h
        · exact h1⟩
theorem code_sound (hΓ : Ok C.P C.ν C.eff Γ) (hnd : C.slots.Nodup) (hmix : C.P.follows .mixedOrders = true) (x0 : X) (hlo : ∀ l, Γ.lo ≤ l → x0.β l = none) : ∀ (c : Code) (ac : AC), C.code c = some ac → ∀ (Q : Ex → List Ent → St → Prop) (env : List Ent) (st : St) (a : Act) (x : X),
    wpA Γ ac Q env st → Inv C a x env st → Step x0 x → c.wp C.P (Post C Q x0) a x.w := by
  intro c
  induction c with
  | skip =>
    intro ac hc Q env st a x hw hi hs
    simp only [CC.code, Option.some.injEq] at hc
    subst hc
    obtain ⟨env, st, hgh, hw⟩ := hw
    obtain ⟨x, hxf, hs, hi⟩ := Inv.ghost hlo hgh hi hs
    rw [← hxf]
    exact wp_skip ⟨.normal, x, env, st, rfl, rfl, hs, hi, hw⟩
  | region id ops draw =>
    intro ac hc Q env st a x hw hi hs
    simp only [CC.code] at hc
    split at hc
    · rename_i l0 hl
      cases draw with
      | false =>
        · simp only [Bool.false_eq_true, if_false, Option.some.injEq] at hc
          subst hc
          have hsp := Spec.start hl
          simp only [wpA] at hw
          obtain ⟨env, st, hgh, hw⟩ := hw
          obtain ⟨x, hxf, hs, hi⟩ := Inv.ghost hlo hgh hi hs
          rw [← hxf]
          refine wp_region ?_
          rw [List.range_eq_range']
          refine seq_run hsp hΓ (x0 := x0) (K := fun vs st' => Q .normal (commit env vs (C.commits 0 ops.toList)) st') (fun vs' st' a' x' hk _ hm hst hsm hfr => ?_) ops.size 0 [] st x a (by omega) rfl (hi.mid _ _ (fun p h => by omega)) hs hi.sim hi.fresh hw
          exact ⟨.normal, x', _, st', rfl, rfl, hst, inv_after hnd hsp hi.len hm hsm hfr, hk⟩
      | true =>
        simp only [if_true] at hc
        split at hc
        · rename_i hdo
          simp only [Option.some.injEq] at hc
          subst hc
          have hsp := (Spec.start hl).loosen (befs [] ops.toList)
          generalize loosen (befs [] ops.toList) l0 0 l0 = l at hsp hdo hw
          simp only [wpA] at hw
          obtain ⟨env, st, hgh, hw⟩ := hw
          obtain ⟨x, hxf, hs, hi⟩ := Inv.ghost hlo hgh hi hs
          rw [← hxf]
          have ho := order_of hdo
          have hasm : ∀ g ∈ l, ∀ vs', g.i.asm true (Src.ev env vs') := by
            intro g hg vs'
            refine asm_of fun s _ hS hok => ?_
            have := hS rfl
            obtain ⟨n, rfl⟩ : ∃ n, s = .s n := by
              cases s <;> simp only [Src.isS] at this <;> first
                | exact ⟨_, rfl⟩
                | cases this
            simp only [Src.ev] at hok ⊢
            by_cases hn : n < C.slots.length
            · exact ⟨_, _, _, hi.env n C.slots[n] (by simp [hn]) hok⟩
            · refine ⟨C.ν, x, undef, ?_⟩
              have : env.getD n .un = .un := by simp [List.getD, List.getElem?_eq_none (show env.length ≤ n by rw [hi.len]; omega)]
              rw [this]; exact .any _
          obtain ⟨VS, M, tr, hM0, hk⟩ := regW_trace0 ho.noM hasm hi.fresh.m hw
          have hg : Grow x.w { x.w with drawn := x.w.drawn + 1 } := ⟨rfl, rfl, rfl, Nat.le_refl _, fun _ _ => rfl⟩
          let x1 : X := ⟨{ x.w with drawn := x.w.drawn + 1 }, x.I, x.β⟩
          have hst1 : Step x x1 := Step.grow hg hi.sim.imm
          have hs1 : Sim C.ν x1 (look st.m) := hi.sim.grow hg
          refine wp_region_any hmix ?_
          refine draw_run hsp ho hΓ tr (x0 := x0) (fun a' x' hm hst hsm hfr => ?_) ops.size _ a x1 (look st.m) 0 ?_ ?_
          · exact ⟨.normal, x', _, _, rfl, rfl, hst, inv_after hnd hsp hi.len hm hsm hfr, hk⟩
          · have hno : ∀ p, ¬ (Array.replicate ops.size false).getD p false = true := fun p => by
              simp [Array.getElem?_replicate]; split <;> simp
            refine ⟨?_, hs.trans hst1, hs1, by simp, fun j hj => absurd hj (hno j), fun l' hl' _ => hi.fresh.β l' hl', fun p g _ _ => ⟨fun h => absurd h (hno p), fun h => by omega⟩, fun l' hl' => ?_, fun q g _ _ _ h => absurd h (hno q)⟩
            · have := hi.mid (ops.toList.map (·.dst)) VS (D := fun p => (Array.replicate ops.size false).getD p false = true) hno
              exact ⟨fun p t hp => absurd hp (hno p), fun p t hp => absurd hp (hno p), fun n t hn h1 h2 => (this.old n t hn h1 h2).mono hst1.le, this.size, this.defers⟩
            · have hlt : l' < st.nx := by
                rcases Nat.lt_or_ge l' st.nx with h1 | h1
                · exact h1
                · exact absurd (hi.fresh.β l' h1) hl'
              rw [show max 0 (l' + 1 - st.nx) = 0 by omega, hM0]
          · unfold cnt
            exact Nat.le_trans (List.length_filter_le _ _) (by simp)
        · cases hc
    · cases hc
  | seq c1 c2 ih1 ih2 =>
    intro ac hc Q env st a x hw hi hs
    simp only [CC.code] at hc
    split at hc
    · rename_i a1 a2 h1 h2
      simp only [Option.some.injEq] at hc
      subst hc
      simp only [wpA] at hw
      obtain ⟨env, st, hgh, hw⟩ := hw
      obtain ⟨x, hxf, hs, hi⟩ := Inv.ghost hlo hgh hi hs
      rw [← hxf]
      refine wp_seq (wp_mono (ih1 a1 h1 _ env st a x hw hi hs) fun e a' w' hp => ?_)
      obtain ⟨e', x', env', st', he, hxw, hst, hi', hq⟩ := hp
      subst hxw
      cases e' with
      | normal => subst he; exact ih2 a2 h2 Q env' st' a' x' hq hi' hst
      | exit id => subst he; exact ⟨.exit id, x', env', st', rfl, rfl, hst, hi', hq⟩
      | ret => subst he; exact ⟨.ret, x', env', st', rfl, rfl, hst, hi', hq⟩
    · cases hc
  | cond c c1 c2 ih1 ih2 =>
    intro ac hc Q env st a x hw hi hs
    simp only [CC.code] at hc
    split at hc
    · rename_i s a1 a2 h0 h1 h2
      simp only [Option.some.injEq] at hc
      subst hc
      simp only [wpA] at hw
      obtain ⟨env, st, hgh, hw⟩ := hw
      obtain ⟨x, hxf, hs, hi⟩ := Inv.ghost hlo hgh hi hs
      rw [← hxf]
      obtain ⟨hok, hw⟩ := hw
      have hv := ev_sound hi h0 hok
      cases hd : (s.ev env []).d <;> simp only [hd] at hw
      rename_i t
      rw [hd] at hv
      cases t with
      | true => exact wp_cond_true hv.bool_inv (ih1 a1 h1 Q env st a x (hw.1 rfl) hi hs)
      | false => exact wp_cond_false hv.bool_inv (ih2 a2 h2 Q env st a x (hw.2 rfl) hi hs)
    · cases hc
  | block id c1 ih =>
    intro ac hc Q env st a x hw hi hs
    simp only [CC.code, Option.map_eq_some_iff] at hc
    obtain ⟨a1, h1, rfl⟩ := hc
    simp only [wpA] at hw
    obtain ⟨env, st, hgh, hw⟩ := hw
    obtain ⟨x, hxf, hs, hi⟩ := Inv.ghost hlo hgh hi hs
    rw [← hxf]
    refine wp_block (wp_mono (ih a1 h1 _ env st a x hw hi hs) fun e a' w' hp => ?_)
    obtain ⟨e', x', env', st', he, hxw, hst, hi', hq⟩ := hp
    subst hxw
    cases e' with
    | normal => subst he; exact ⟨.normal, x', env', st', rfl, rfl, hst, hi', hq⟩
    | exit j =>
      subst he
      simp only [Ex.of, Exit.inBlock]
      by_cases hj : j = id
      · rw [if_pos hj]; simp only [hj, if_true] at hq; exact ⟨.normal, x', env', st', rfl, rfl, hst, hi', hq⟩
      · rw [if_neg hj]; simp only [hj, if_false] at hq; exact ⟨.exit j, x', env', st', rfl, rfl, hst, hi', hq⟩
    | ret => subst he; exact ⟨.ret, x', env', st', rfl, rfl, hst, hi', hq⟩
  | loop c1 ih =>
    intro ac hc Q env st a x hw hi hs
    simp only [CC.code, Option.map_eq_some_iff] at hc
    obtain ⟨a1, h1, rfl⟩ := hc
    simp only [wpA] at hw
    obtain ⟨env, st, hgh, hw⟩ := hw
    obtain ⟨x, hxf, hs, hi⟩ := Inv.ghost hlo hgh hi hs
    rw [← hxf]
    obtain ⟨I, μ, hI, hround⟩ := hw
    let W : Act → World → Nat → Prop := fun a w n => ∃ env st x, x.w = w ∧ Step x0 x ∧ Inv C a x env st ∧ I env st ∧ μ env st = n
    open Classical in
    let μ' : Act → World → Nat := fun a w => if h : ∃ n, W a w n then Classical.choose (least h) else 0
    refine wp_loop (fun a w => ∃ n, W a w n) μ' ⟨_, env, st, x, rfl, hs, hi, hI, rfl⟩ fun a w hIn => ?_
    have hμ : μ' a w = Classical.choose (least hIn) := dif_pos hIn
    obtain ⟨env2, st2, x2, hxw, hst2, hi2, hI2, hmu⟩ := (Classical.choose_spec (least hIn)).1
    subst hxw
    refine wp_mono (ih a1 h1 _ env2 st2 a x2 (hround env2 st2 hI2) hi2 hst2) fun e a' w' hp => ?_
    obtain ⟨e', x', env', st', he, hxw, hst, hi', hq⟩ := hp
    subst hxw
    cases e' with
    | normal =>
      subst he
      obtain ⟨env3, st3, hgh3, hI3, hlt⟩ := hq
      obtain ⟨x', hxf', hst, hi'⟩ := Inv.ghost hlo hgh3 hi' hst
      rw [← hxf']
      have hW : W a' x'.w (μ env3 st3) := ⟨env3, st3, x', rfl, hst, hi', hI3, rfl⟩
      refine ⟨⟨_, hW⟩, ?_⟩
      have h2 : μ' a' x'.w = Classical.choose (least (⟨_, hW⟩ : ∃ n, W a' x'.w n)) := dif_pos ⟨_, hW⟩
      rw [h2, hμ]
      exact Nat.lt_of_le_of_lt ((Classical.choose_spec (least (⟨_, hW⟩ : ∃ n, W a' x'.w n))).2 _ hW) (by rw [← hmu]; exact hlt)
    | exit id => subst he; exact ⟨.exit id, x', env', st', rfl, rfl, hst, hi', hq⟩
    | ret => subst he; exact ⟨.ret, x', env', st', rfl, rfl, hst, hi', hq⟩
  | exit id =>
    intro ac hc Q env st a x hw hi hs
    simp only [CC.code, Option.some.injEq] at hc
    subst hc
    obtain ⟨env, st, hgh, hw⟩ := hw
    obtain ⟨x, hxf, hs, hi⟩ := Inv.ghost hlo hgh hi hs
    rw [← hxf]
    exact wp_exit ⟨.exit id, x, env, st, rfl, rfl, hs, hi, hw⟩
  | ret =>
    intro ac hc Q env st a x hw hi hs
    simp only [CC.code, Option.some.injEq] at hc
    subst hc
    obtain ⟨env, st, hgh, hw⟩ := hw
    obtain ⟨x, hxf, hs, hi⟩ := Inv.ghost hlo hgh hi hs
    rw [← hxf]
    exact wp_ret ⟨.ret, x, env, st, rfl, rfl, hs, hi, hw⟩
  | scope c1 ih =>
    intro ac hc Q env st a x hw hi hs
    simp only [CC.code] at hc
    refine wp_scope_straight (wp_mono (ih ac hc Q env st a x hw hi hs) fun e a' w' hp => ?_)
    obtain ⟨e', x', env', st', he, hxw, hst, hi', hq⟩ := hp
    subst he
    cases e' <;> exact ⟨_, x', env', st', rfl, hxw, hst, hi', hq⟩
  | label l =>
    intro ac hc Q env st a x hw hi hs
    simp only [CC.code, Option.some.injEq] at hc
    subst hc
    obtain ⟨env, st, hgh, hw⟩ := hw
    obtain ⟨x, hxf, hs, hi⟩ := Inv.ghost hlo hgh hi hs
    rw [← hxf]
    exact wp_label ⟨.normal, x, env, st, rfl, rfl, hs, hi, hw⟩
  | _ => intro ac hc; simp [CC.code] at hc
end
end Go.Abs
end
section
namespace Go.Abs
variable [Glob]
section
variable {C : CC} {Γ : Ctx}
theorem load_mem {P : Program} {ν : List (Nat × Nat)} {x : X} {f : Nat → Option Blk} {m : List (Nat × Blk)} {t : TypeId} {v : Value} {d : D} (hn0 : P.cellsOf t ≠ 0) (hu : (P.underlying t).isNone = false) (h1' : isAggT P t = false → P.cellsOf t = 1)
    (hv : RD ν x v d) (k2 : ldO m (P.cellsOf t) d) (hs : Sim ν x f) (hag : ∀ l, look m l ≠ none → f l = look m l) :
    ∃ ad u, v = .pointer (some ad) ∧ (loadVar t ad).run P x.w = .ok u x.w ∧ RD ν x u (ldV m (P.cellsOf t) (isAggT P t) d) := by
  cases d <;> simp only [ldO] at k2
  · rename_i k es i o'
    cases hv with
    | ref b off _ _ _ at_ _ c hI hat hk hn hcc hone hh =>
      obtain ⟨v, r1, r2⟩ := load_el (P := P) (ν := ν) (x := x) (e := es.getD i .any) (k := k) (n := P.cellsOf t) (o := o') (b := b) (at0 := off + i * k) (ag := isAggT P t) (ty := t) (c := c i) (hk i k2.1) k2.2
        (fun j hj => ⟨hcc i j k2.1 hj, hone i j k2.1 hj, hh i j k2.1 hj⟩) rfl hn0 hu rfl h1'
      exact ⟨_, v, rfl, by rw [hat]; exact r1, by simp only [ldV]; exact r2⟩
  · rename_i l k i o'
    cases hv with
    | ptr _ _ _ _ b base tot at_ hβ hat =>
      obtain ⟨g1, g2, hnI, hk0, ht, c, T, fr, q1, q2, q3, q4⟩ := buf_full hs hag k2.1 hβ
      have hi : i < (bufEls m l).length := by omega
      obtain ⟨v, r1, r2⟩ := load_el (P := P) (ν := ν) (x := x) (e := (bufEls m l).getD i .any) (k := k) (n := P.cellsOf t) (o := o') (b := b) (at0 := base + i * k) (ag := isAggT P t) (ty := t) (c := fun j => c.getD (base + i * k + j) undef)
        ((q4 i hi).1) k2.2
        (fun j hj => ⟨cell_of_heap q1 (by have := idx_lt (tot := tot) (show i < tot by omega) hj; omega), ((q4 i hi).2 j hj).1, ((q4 i hi).2 j hj).2⟩) rfl hn0 hu rfl h1'
      exact ⟨_, v, rfl, by rw [hat]; exact r1, by simp only [ldV]; exact r2⟩
def resOne (a : Act) : ResultVar → Sem Value
  | .tmp t => pure (a.tmps.getD t undef)
  | .cell ad t => do loadVar t (← asAddr (a.tmps.getD ad undef))
theorem results_run {a : Act} {x : X} {env : List Ent} {st : St} (hi : Inv C a x env st) : ∀ (rs : List ResultVar) (ars : List ARes), ress? C.P C.slots rs = some ars → resO st.m env ars →
    ∃ vs, (rs.mapM (resOne a)).run C.P x.w = .ok vs x.w ∧ vs.length = ars.length ∧ (ress st.m env ars).length = ars.length ∧ ∀ i, i < ars.length → RD C.ν x (vs.getD i undef) ((ress st.m env ars).getD i .any)
  | [], ars, h, _ => by simp [ress?] at h; subst h; exact ⟨[], by simp, rfl, by simp [ress], fun i hi => by simp at hi⟩
  | .tmp t :: r, ars, h, ho => by
    simp only [ress?] at h
    split at h
    · rename_i s l h1 h2
      simp only [Option.some.injEq] at h
      subst h
      simp only [resO] at ho
      obtain ⟨vs, b1, b2, b4, b3⟩ := results_run hi r l h2 ho.2.2
      refine ⟨a.tmps.getD t undef :: vs, by simp [resOne, b1], by simp [b2], by simp [ress, b4], fun i hil => ?_⟩
      cases i with
      | zero => simpa [ress, res1] using hi.env s t (idx?_spec _ _ _ h1) ho.1
      | succ i => simpa [ress] using b3 i (by simpa using hil)
    · cases h
  | .cell t ty :: r, ars, h, ho => by
    simp only [ress?] at h
    split at h
    · rename_i s l h1 h2
      split at h
      · cases h
      rename_i hce
      simp only [Option.some.injEq] at h
      subst h
      simp only [resO] at ho
      obtain ⟨vs, b1, b2, b4, b3⟩ := results_run hi r l h2 ho.2.2
      have hu : (C.P.underlying ty).isNone = false := by cases hn : (C.P.underlying ty).isNone with | false => rfl | true => exact absurd (.inr (.inl hn)) hce
      have h1' : isAggT C.P ty = false → C.P.cellsOf ty = 1 := fun e => by
        rcases Nat.decEq (C.P.cellsOf ty) 1 with h | h
        · exact absurd (.inr (.inr ⟨e, h⟩)) hce
        · exact h
      obtain ⟨ad, u, c1, c2, c3⟩ := load_mem (fun e => hce (.inl e)) hu h1' (hi.env s t (idx?_spec _ _ _ h1) ho.1) ho.2.1 hi.sim (fun _ _ => rfl)
      refine ⟨u :: vs, ?_, by simp [b2], by simp [ress, b4], fun i hil => ?_⟩
      · have e : (resOne a (.cell t ty)).run C.P x.w = .ok u x.w := by simp only [resOne, c1]; simp [asAddr, c2]
        simp [List.mapM_cons, e, b1]
      · cases i with
        | zero => simpa [ress, res1] using c3
        | succ i => simpa [ress] using b3 i (by simpa using hil)
    · cases h
theorem results_eq (fn : Func) (a : Act) : results fn a.tmps = (do
    let vs ← fn.results.mapM (resOne a)
    pure (if h : vs.size = 1 then vs[0] else .tuple vs)) := by
  unfold results
  congr 1
theorem results_raw {a : Act} {x : X} {env : List Ent} {st : St} (hi : Inv C a x env st) {fn : Func} {af : AFunc} (hr : ress? C.P C.slots fn.results.toList = some af.res) (ho : resO st.m env af.res) :
    ∃ v, (results fn a.tmps).run C.P x.w = .ok v x.w ∧ RD C.ν x v (retRaw af env st) ∧ (af.res.length ≠ 1 → ∃ cs, v = .tuple cs) := by
  obtain ⟨vs, b1, b2, b4, b3⟩ := results_run hi _ _ hr ho
  have hrun : (results fn a.tmps).run C.P x.w = .ok (if h : vs.length = 1 then vs[0] else .tuple vs.toArray) x.w := by
    rw [results_eq, Sem.run_bind, Array.mapM_eq_mapM_toList, Sem.run_map, b1]
    simp [Result.andThen]
  rcases hres : af.res with _ | ⟨r, _ | ⟨r2, rs⟩⟩
  · rw [hres] at b2 b3 b4
    have h0 : vs.length ≠ 1 := by rw [b2]; simp
    rw [dif_neg h0] at hrun
    refine ⟨_, hrun, ?_, fun _ => ⟨_, rfl⟩⟩
    simp only [retRaw, hres]
    refine .tup _ _ (by simp [b2, b4]) fun i hi => ?_
    have := b3 i (by omega)
    rwa [← toList_getD]
  · rw [hres] at b2 b3 b4
    have h0 : vs.length = 1 := by rw [b2]; rfl
    rw [dif_pos h0] at hrun
    refine ⟨_, hrun, ?_, fun h => absurd rfl h⟩
    simp only [retRaw, hres]
    have := b3 0 (by simp)
    simp only [ress, List.getD_cons_zero] at this
    rwa [getD_lt _ _ _ (by omega)] at this
  · rw [hres] at b2 b3 b4
    have h0 : vs.length ≠ 1 := by rw [b2]; simp
    rw [dif_neg h0] at hrun
    refine ⟨_, hrun, ?_, fun _ => ⟨_, rfl⟩⟩
    simp only [retRaw, hres]
    refine .tup _ _ (by simp [b2, b4]) fun i hi => ?_
    have := b3 i (by omega)
    rwa [← toList_getD]
theorem dedup_pre : ∀ (l acc : List Nat), ∃ r, dedup acc l = acc.reverse ++ r
  | [], acc => ⟨[], by simp [dedup]⟩
  | a :: l, acc => by
    simp only [dedup]
    split
    · exact dedup_pre l acc
    · obtain ⟨r, h⟩ := dedup_pre l (a :: acc)
      exact ⟨a :: r, by rw [h]; simp⟩
theorem dedup_nodup : ∀ (l acc : List Nat), acc.Nodup → (dedup acc l).Nodup
  | [], acc, h => by simp only [dedup]; exact List.pairwise_reverse.2 (h.imp fun h => Ne.symm h)
  | a :: l, acc, h => by
    simp only [dedup]
    split
    · exact dedup_nodup l acc h
    · rename_i hn
      exact dedup_nodup l (a :: acc) (List.nodup_cons.2 ⟨by simpa using hn, h⟩)
theorem dedup_range (rest : List Nat) : ∀ (n j : Nat), dedup (List.range j).reverse (List.range' j n ++ rest) = dedup (List.range (j + n)).reverse rest
  | 0, j => by simp
  | n + 1, j => by
    rw [List.range'_succ, List.cons_append]
    simp only [dedup]
    rw [if_neg (by simp)]
    have e : j :: (List.range j).reverse = (List.range (j + 1)).reverse := by rw [List.range_succ]; simp
    rw [e, dedup_range rest n (j + 1)]
    congr 2; congr 1; omega
theorem slots_start (fn : Func) : (slotsOf fn).Nodup ∧ fn.params.size + fn.nfree ≤ (slotsOf fn).length ∧ ∀ n, n < fn.params.size + fn.nfree → (slotsOf fn)[n]? = some n := by
  refine ⟨dedup_nodup _ _ List.nodup_nil, ?_⟩
  have e : slotsOf fn = dedup (List.range (fn.params.size + fn.nfree)).reverse (resTmps fn.results.toList ++ uses (fn.body.getD .skip)) := by
    have := dedup_range (resTmps fn.results.toList ++ uses (fn.body.getD .skip)) (fn.params.size + fn.nfree) 0
    simp only [List.range_zero, List.reverse_nil, Nat.zero_add] at this
    unfold slotsOf
    rw [List.append_assoc, List.range_eq_range']
    rw [this, List.range_eq_range']
  obtain ⟨r, h⟩ := dedup_pre (resTmps fn.results.toList ++ uses (fn.body.getD .skip)) (List.range (fn.params.size + fn.nfree)).reverse
  rw [e, h]
  refine ⟨by simp, fun n hn => ?_⟩
  rw [List.reverse_reverse, List.getElem?_append_left (by simpa using hn)]
  simp [hn]
end
end Go.Abs
end
section
namespace Go.Abs
variable [Glob]
section
variable {P : Program} {ν : List (Nat × Nat)} {eff : List Nat} {Γ : Ctx}
theorem Ok.at (h : Ok P ν eff Γ) (n : Nat) : Ok P ν eff (Γ.at n) := ⟨h.pure, h.effF, h.eff⟩
/-- what the compiler did -/
theorem compile_spec {fn : Func} {af : AFunc} (hc : compile P ν eff fn = some af) :
    ∃ body, fn.body = some body ∧ CC.code { P, ν, eff, slots := slotsOf fn, ntmps := fn.ntmps } body = some af.body ∧ ress? P (slotsOf fn) fn.results.toList = some af.res ∧
      fn.params.size + fn.nfree ≤ fn.ntmps ∧ af.np = fn.params.size + fn.nfree ∧ af.ns = (slotsOf fn).length := by
  unfold compile at hc
  split at hc
  · rename_i body hb
    split at hc
    · rename_i a res h1 h2
      split at hc
      · rename_i h3
        simp only [Option.some.injEq] at hc
        subst hc
        exact ⟨body, hb, h1, h2, h3, rfl, rfl⟩
      · cases hc
    · cases hc
  · cases hc
theorem start_inv {fn : Func} {af : AFunc} {x : X} {args : Array Value} {ds : List D} {st : St} (hnp : fn.params.size + fn.nfree ≤ fn.ntmps) (h1 : af.np = fn.params.size + fn.nfree) (h2 : af.ns = (slotsOf fn).length) (hl : args.size = ds.length) (hd : ds.length = af.np)
    (hargs : ∀ i, i < ds.length → RD ν x (args.getD i undef) (ds.getD i .any)) (hs : Sim ν x (look st.m)) (hf : Fresh st x) :
    Inv { P, ν, eff, slots := slotsOf fn, ntmps := fn.ntmps } { tmps := args ++ Array.replicate (fn.ntmps - args.size) undef, defers := [] } x (env0 af ds) st := by
  obtain ⟨s1, s2, s3⟩ := slots_start fn
  refine ⟨?_, fun n t hn ho => ?_, by simp; omega, rfl, hs, hf⟩
  · simp only [env0, List.length_append, List.length_map, List.length_replicate]; omega
  · simp only at hn
    simp only [env0] at ho ⊢
    rw [getD_append] at ho ⊢
    simp only [List.length_map] at ho ⊢
    by_cases h : n < ds.length
    · rw [if_pos h]
      have := s3 n (by omega)
      rw [this] at hn
      obtain rfl := Option.some.inj hn
      have e : (ds.map fun d => (⟨true, d⟩ : Ent)).getD n .un = ⟨true, ds.getD n .any⟩ := by simp [List.getD, h]
      rw [e]
      have e2 : (args ++ Array.replicate (fn.ntmps - args.size) undef).getD n undef = args.getD n undef := by rw [getD_app_arr, if_pos (by omega)]
      simp only
      rw [e2]; exact hargs n h
    · rw [if_neg h]
      have : (List.replicate (af.ns - af.np) Ent.un).getD (n - ds.length) .un = .un := by
        simp only [List.getD, List.getElem?_replicate]; split <;> rfl
      rw [this]; exact .any _
theorem Ex.of_home {e : Ex} (h : e.home) : Ex.of e = .normal ∨ Ex.of e = .ret := by
  cases e with
  | normal => exact .inl rfl
  | exit id => exact h.elim
  | ret => exact .inr rfl
/-- a function that only computes -/
theorem fn_pure {fid : Nat} {fn : Func} {af : AFunc} {d : D} (hΓ : Ok P ν eff Γ) (hmix : P.follows .mixedOrders = true) (hf : P.funcs[fid]? = some fn) (hc : compile P ν eff fn = some af)
    {x : X} {args : Array Value} {ds : List D} (hl : args.size = ds.length) (hargs : ∀ i, i < ds.length → RD ν x (args.getD i undef) (ds.getD i .any)) (hnl : noLocs ds = true) (himm : ∀ b, x.I b → b < x.w.heap.size) (hgd : Glob.gd x)
    (hnp : ds.length = af.np) (hw : wpA (Γ.at 0) af.body (fun e env st => e.home ∧ resO st.m env af.res ∧ retPO af env st ∧ retP af env st = d) (env0 af ds) ⟨0, []⟩) :
    Calls P fid args x.w fun
      | .returned v, w' => ∃ x', x'.w = w' ∧ PStep x x' ∧ RD ν x' v d
      | _, _ => False := by
  obtain ⟨body, c1, c2, c3, c4, c5, c6⟩ := compile_spec hc
  let x0 : X := ⟨x.w, x.I, fun _ => none⟩
  have hs0 : Sim ν x0 (look []) := ⟨fun l blk b base tot h => by simp [look] at h, fun l l' b base tot base' tot' h => by simp [look] at h, himm, fun l b base tot h => (by cases h), Glob.le x _ (fun _ h => h) (fun _ _ => rfl) hgd⟩
  have hf0 : Fresh ⟨0, []⟩ x0 := ⟨fun l _ => rfl, fun l h => by simp [look] at h⟩
  have hi := start_inv (P := P) (ν := ν) (eff := eff) (x := x0) (st := ⟨0, []⟩) c4 c5 c6 hl hnp (fun i hi => (hargs i hi).noLoc (noLocs_getD hnl i) (fun _ h => h) (fun _ _ => rfl)) hs0 hf0
  have hcs := code_sound (C := { P, ν, eff, slots := slotsOf fn, ntmps := fn.ntmps }) (hΓ.at 0) (slots_start fn).1 hmix x0 (fun _ _ => rfl) body af.body c2 _ _ _ _ x0 hw hi (.refl _)
  refine calls_of_wp hf c1 (wp_mono hcs fun e a w' hp => ?_)
  obtain ⟨e', x', env', st', he, hxw, hst, hi', hh, hro, hrpo, hrp⟩ := hp
  subst hxw
  obtain ⟨v, r1, r2, r3⟩ := results_raw hi' c3 hro
  have hI : ∀ b, (x'.froz (look st'.m)).I b → b < x'.w.heap.size := by
    intro b hb
    rcases hb with h | ⟨l, ⟨b', base, tot⟩, h1, h2, h3⟩
    · exact hi'.sim.imm b h
    · subst h2; exact hi'.sim.bnd l _ _ _ h1
  have hnew : ∀ b, (x'.froz (look st'.m)).I b → x.I b ∨ x.w.heap.size ≤ b := by
    intro b hb
    rcases hb with h | ⟨l, p, h1, h2, h3⟩
    · rcases hst.newI b h with h | h | ⟨l, p, h, _⟩
      · exact .inl h
      · exact .inr h
      · cases h
    · subst h2
      rcases hst.newβ l p h1 with h | h | ⟨l', p', h, _⟩
      · cases h
      · exact .inr h
      · cases h
  have hps : PStep x ⟨x'.w, (x'.froz (look st'.m)).I, x.β⟩ :=
    ⟨⟨hst.os, hst.tape, hst.output, hst.size, fun b hb => hst.old b hb fun l p h => by cases h⟩, fun b hb => .inl (hst.I b hb), hnew, hI, rfl⟩
  have hrd : RD ν ⟨x'.w, (x'.froz (look st'.m)).I, x.β⟩ v d := by
    rw [← hrp]
    have key : ∀ (v : Value) (d : D), RD ν (x'.froz (look st'.m)) v d → d.noLoc = true → RD ν ⟨x'.w, (x'.froz (look st'.m)).I, x.β⟩ v d := fun v d h hn => h.noLoc hn (fun _ h => h) (fun _ _ => rfl)
    unfold retRaw at r2
    unfold retPO at hrpo
    unfold retP
    rcases hres : af.res with _ | ⟨r, _ | ⟨r2', rs⟩⟩
    · simp only [hres] at r2 hrpo ⊢
      generalize hvs : ress st'.m env' [] = vs at r2 hrpo ⊢
      cases r2 with
      | tup cs _ hl' hh' =>
        obtain ⟨q1, q2, q3⟩ := purs_sound hi'.sim (fun _ _ => rfl) af.rsh vs (fun j => cs.getD j undef) hh' hrpo
        exact .tup cs _ (by rw [q1, hl']) fun i hi => key _ _ (q3 i (by omega)) (noLocs_getD q2 i)
    · simp only [hres] at r2 hrpo ⊢
      obtain ⟨q1, q2⟩ := purV_sound hi'.sim (fun _ _ => rfl) _ _ _ r2 hrpo
      exact key _ _ q1 q2
    · simp only [hres] at r2 hrpo ⊢
      generalize hvs : ress st'.m env' (r :: r2' :: rs) = vs at r2 hrpo ⊢
      cases r2 with
      | tup cs _ hl' hh' =>
        obtain ⟨q1, q2, q3⟩ := purs_sound hi'.sim (fun _ _ => rfl) af.rsh vs (fun j => cs.getD j undef) hh' hrpo
        exact .tup cs _ (by rw [q1, hl']) fun i hi => key _ _ (q3 i (by omega)) (noLocs_getD q2 i)
  rcases Ex.of_home hh with h | h <;> rw [h] at he <;> subst he <;> exact ⟨hi'.defers, v, r1, ⟨x'.w, (x'.froz (look st'.m)).I, x.β⟩, rfl, hps, hrd⟩
/-- a method that changes what its receiver points to -/
theorem fn_effF {fid : Nat} {fn : Func} {af : AFunc} {vd sd : D} (hΓ : Ok P ν eff Γ) (hmix : P.follows .mixedOrders = true) (hf : P.funcs[fid]? = some fn) (hc : compile P ν eff fn = some af)
    {x : X} {f : Nat → Option Blk} {args : Array Value} {l k : Nat} {d : D} {ds : List D} (hl : args.size = ds.length + 1) (h0 : RD ν x (args.getD 0 undef) (.ptr l k 0 0)) (hargs : ∀ i, i < ds.length → RD ν x (args.getD (i + 1) undef) (ds.getD i .any))
    (hs : Sim ν x f) (hfl : f l = some (.buf k [d])) (hd : d.noLoc = true) (hnl : noLocs ds = true) (hnp : ds.length + 1 = af.np)
    (hw : wpA (Γ.at 1) af.body (fun e env st => e.home ∧ resO st.m env af.res ∧ (retRaw af env st).noLoc = true ∧ retRaw af env st = vd ∧ look st.m 0 = some (.buf k [sd]) ∧ sd.noLoc = true) (env0 af (.ptr 0 k 0 0 :: ds)) ⟨1, [(0, .buf k [d])]⟩) :
    Calls P fid args x.w fun
      | .returned v, w' => ∃ x', x'.w = w' ∧ Step x x' ∧ RD ν x' v vd ∧ Sim ν x' (fun l' => if l' = l then some (.buf k [sd]) else f l') ∧ x'.β = x.β
      | _, _ => False := by
  obtain ⟨body, c1, c2, c3, c4, c5, c6⟩ := compile_spec hc
  obtain ⟨b, base, tot, hβ, ha0⟩ : ∃ b base tot, x.β l = some (b, base, tot) ∧ args.getD 0 undef = .pointer (some ⟨b, base, none⟩) := by
    generalize args.getD 0 undef = v0 at h0
    cases h0 with
    | ptr _ _ _ _ b base tot at_ hβ hat => exact ⟨b, base, tot, hβ, by simp [hat]⟩
  let x1 : X := ⟨x.w, x.I, fun l' => if l' = 0 then x.β l else none⟩
  have hx1 : ∀ l' p, x1.β l' = some p → l' = 0 ∧ p = (b, base, tot) := by
    intro l' p h
    simp only [x1] at h
    split at h
    · rename_i e; rw [hβ] at h; exact ⟨e, (Option.some.inj h).symm⟩
    · cases h
  have hx1' : x1.β 0 = some (b, base, tot) := by simp [x1, hβ]
  have key1 : ∀ (v : Value) (d : D), RD ν x v d → d.noLoc = true → RD ν x1 v d := fun v d h hn => h.noLoc hn (fun _ h => h) (fun _ _ => rfl)
  have hbR := hs.own l _ b base tot hfl hβ
  have hs1 : Sim ν x1 (look [(0, .buf k [d])]) := by
    refine ⟨fun l' blk b' base' tot' e1 e2 => ?_, fun l1 l2 b' base' tot' base'' tot'' e1 e2 e3 e4 => (hx1 _ _ e3).1.trans (hx1 _ _ e4).1.symm, hs.imm, fun l' b' base' tot' e => ?_, Glob.le x _ (fun _ h => h) (fun _ _ => rfl) hs.gd⟩
    · obtain ⟨rfl, e3⟩ := hx1 _ _ e2
      simp only [Prod.mk.injEq] at e3
      obtain ⟨rfl, rfl, rfl⟩ := e3
      simp only [look, if_true, Option.some.injEq] at e1
      subst e1
      refine ⟨hbR.1, ?_⟩
      obtain ⟨p1, p2, c, T, fr, p3, p4, p5, p6⟩ := hbR.2
      refine ⟨p1, p2, c, T, fr, p3, p4, p5, fun i hi => ⟨(p6 i hi).1, fun j hj => ⟨((p6 i hi).2 j hj).1, key1 _ _ ((p6 i hi).2 j hj).2 ?_⟩⟩⟩
      have : i = 0 := by simpa using hi
      subst this
      exact noLoc_cell (by simpa using hd) j
    · obtain ⟨_, e3⟩ := hx1 _ _ e
      simp only [Prod.mk.injEq] at e3
      rw [e3.1]; exact hs.bnd l b base tot hβ
  have hf1 : Fresh ⟨1, [(0, .buf k [d])]⟩ x1 := ⟨fun l' hl' => by
      cases h : x1.β l' with
      | none => rfl
      | some p => have := (hx1 _ _ h).1; simp only at hl'; omega, fun l' hl' => by
      simp only [look] at hl'
      split at hl'
      · rename_i e; simp only; omega
      · exact absurd rfl hl'⟩
  have hi := start_inv (P := P) (ν := ν) (eff := eff) (x := x1) (ds := .ptr 0 k 0 0 :: ds) (st := ⟨1, [(0, .buf k [d])]⟩) c4 c5 c6 (args := args) (by simpa using hl) (by simpa using hnp) (fun i hi => by
    cases i with
    | zero => simp only [List.getD_cons_zero]; rw [ha0]; exact .ptr 0 k 0 0 b base tot base hx1' (by simp)
    | succ i => simp only [List.getD_cons_succ]; exact key1 _ _ (hargs i (by simpa using hi)) (noLocs_getD hnl i)) hs1 hf1
  have hcs := code_sound (C := { P, ν, eff, slots := slotsOf fn, ntmps := fn.ntmps }) (hΓ.at 1) (slots_start fn).1 hmix x1 (fun l h => hf1.β l h) body af.body c2 _ _ _ _ x1 hw hi (.refl _)
  refine calls_of_wp hf c1 (wp_mono hcs fun e a w' hp => ?_)
  obtain ⟨e', x', env', st', he, hxw, hst, hi', hh, hro, hrn, hrv, hlk, hsn⟩ := hp
  subst hxw
  obtain ⟨v, r1, r2, r3⟩ := results_raw hi' c3 hro
  let x2 : X := ⟨x'.w, x'.I, x.β⟩
  have key2 : ∀ (v : Value) (d : D), RD ν x' v d → d.noLoc = true → RD ν x2 v d := fun v d h hn => h.noLoc hn (fun _ h => h) (fun _ _ => rfl)
  have hb' : x'.β 0 = some (b, base, tot) := hst.β _ _ hx1'
  have hnewI : ∀ b', x'.I b' → x.I b' ∨ x.w.heap.size ≤ b' ∨ b' = b := by
    intro b' h
    rcases hst.newI b' h with h | h | ⟨l', p, h1, h2⟩
    · exact .inl h
    · exact .inr (.inl h)
    · right; right; rw [← h2, (hx1 _ _ h1).2]
  have hstep : Step x x2 := by
    refine ⟨hst.os, hst.tape, hst.output, hst.size, hst.I, hst.keep, fun _ _ h => h, fun b' hb' hn => hst.old b' hb' fun l' p h e => ?_, fun b' h => ?_, fun _ _ h => .inl h⟩
    · have := hn l _ hβ; rw [(hx1 _ _ h).2] at e; exact this e
    · rcases hnewI b' h with h | h | h
      · exact .inl h
      · exact .inr (.inl h)
      · exact .inr (.inr ⟨l, _, hβ, h.symm⟩)
  have hsim : Sim ν x2 (fun l' => if l' = l then some (.buf k [sd]) else f l') := by
    have hbb := hi'.sim.own 0 _ b base tot hlk hb'
    refine ⟨fun l' blk b' base' tot' e1 e2 => ?_, fun l1 l2 b' base' tot' base'' tot'' e1 e2 e3 e4 => ?_, hi'.sim.imm, fun l' b' base' tot' e => Nat.lt_of_lt_of_le (hs.bnd l' b' base' tot' e) hst.size, Glob.le x' _ (fun _ h => h) (fun _ _ => rfl) hi'.sim.gd⟩
    · by_cases hll : l' = l
      · subst hll
        simp only [if_true, Option.some.injEq] at e1
        subst e1
        have e2' : x.β l' = some (b', base', tot') := e2
        rw [hβ] at e2'
        simp only [Option.some.injEq, Prod.mk.injEq] at e2'
        obtain ⟨rfl, rfl, rfl⟩ := e2'
        refine ⟨hbb.1, ?_⟩
        obtain ⟨p1, p2, c, T, fr, p3, p4, p5, p6⟩ := hbb.2
        refine ⟨p1, p2, c, T, fr, p3, p4, p5, fun i hi => ⟨(p6 i hi).1, fun j hj => ⟨((p6 i hi).2 j hj).1, key2 _ _ ((p6 i hi).2 j hj).2 ?_⟩⟩⟩
        have : i = 0 := by simpa using hi
        subst this
        exact noLoc_cell (by simpa using hsn) j
      · simp only [if_neg hll] at e1
        have e2' : x.β l' = some (b', base', tot') := e2
        obtain ⟨q1, q2⟩ := hs.own l' blk b' base' tot' e1 e2'
        have hne : b' ≠ b := fun e => by subst e; exact hll (hs.inj l' l b' base' tot' base tot (by rw [e1]; simp) (by rw [hfl]; simp) e2' hβ)
        have hlt := hs.bnd l' b' base' tot' e2'
        refine ⟨fun h => ?_, q2.mono hstep.le (hst.old b' hlt fun l'' p h e => hne (by rw [← e, (hx1 _ _ h).2]))⟩
        rcases hnewI b' h with h | h | h
        · exact q1 h
        · omega
        · exact hne h
    · have hne : ∀ l', (if l' = l then some (Blk.buf k [sd]) else f l') ≠ none → f l' ≠ none := fun l' h => by
        by_cases e : l' = l
        · rw [e, hfl]; simp
        · rwa [if_neg e] at h
      exact hs.inj l1 l2 b' base' tot' base'' tot'' (hne _ e1) (hne _ e2) e3 e4
  rw [hrv] at r2
  rcases Ex.of_home hh with h | h <;> rw [h] at he <;> subst he <;> exact ⟨hi'.defers, v, r1, x2, rfl, hstep, key2 _ _ r2 (by rw [← hrv]; exact hrn), hsim, rfl⟩
structure Rank where
  key : Nat → Nat
  mu : Nat → List D → Nat
  muE : Nat → List D → St → Nat
def Ctx.under (Γ : Ctx) (R : Rank) (k u : Nat) : Ctx where
  pre n ds := (R.key n < k ∨ R.key n = k ∧ R.mu n ds < u) ∧ Γ.pre n ds
  val := Γ.val
  tr n ds st K := (R.key n < k ∨ R.key n = k ∧ R.muE n ds st < u) ∧ Γ.tr n ds st K
  fp n d ds := (R.key n < k ∨ R.key n = k ∧ R.mu n (d :: ds) < u) ∧ Γ.fp n d ds
  fv := Γ.fv
  fs := Γ.fs
  lo := Γ.lo
theorem ok_of (R : Rank)
    (hp : ∀ fid n, assoc? ν fid = some n → ∀ ds, Γ.pre n ds → Ok P ν eff (Γ.under R (R.key n) (R.mu n ds)) → ∀ (x : X) (args : Array Value), args.size = ds.length → (∀ i, i < ds.length → RD ν x (args.getD i undef) (ds.getD i .any)) → noLocs ds = true →
      (∀ b, x.I b → b < x.w.heap.size) → Glob.gd x → Does P x (fun v x' => PStep x x' ∧ RD ν x' v (Γ.val n ds)) ((callFunc fid args).run P x.w))
    (hf : ∀ fid n, assoc? ν fid = some n → eff.contains (2 * n + 1) = true → ∀ (d : D) (ds : List D), Γ.fp n d ds → Ok P ν eff (Γ.under R (R.key n) (R.mu n (d :: ds))) → ∀ (x : X) (f : Nat → Option Blk) (args : Array Value) (l k : Nat), args.size = ds.length + 1 →
      RD ν x (args.getD 0 undef) (.ptr l k 0 0) → (∀ i, i < ds.length → RD ν x (args.getD (i + 1) undef) (ds.getD i .any)) → Sim ν x f → f l = some (.buf k [d]) → d.noLoc = true → noLocs ds = true →
      Does P x (fun v x' => Step x x' ∧ RD ν x' v (Γ.fv n d ds) ∧ Sim ν x' (fun l' => if l' = l then some (.buf k [Γ.fs n d ds]) else f l') ∧ x'.β = x.β) ((callFunc fid args).run P x.w))
    (he : ∀ fid n, assoc? ν fid = some n → eff.contains (2 * n) = true → ∀ (ds : List D) (st : St) (K : D → St → Prop), Γ.tr n ds st K → Ok P ν eff (Γ.under R (R.key n) (R.muE n ds st)) → ∀ (x : X) (args : Array Value), args.size = ds.length → (∀ i, i < ds.length → RD ν x (args.getD i undef) (ds.getD i .any)) →
      Sim ν x (look st.m) → Fresh st x → Does P x (fun v x' => ∃ d st', K d st' ∧ Step x x' ∧ RD ν x' v d ∧ Sim ν x' (look st'.m) ∧ Fresh st' x') ((callFunc fid args).run P x.w)) : Ok P ν eff Γ := by
  have key : ∀ k u, Ok P ν eff (Γ.under R k u) := by
    intro k
    induction k using Nat.strongRecOn with
    | _ k ihk =>
      intro u
      induction u using Nat.strongRecOn with
      | _ u ihu =>
        refine ⟨fun fid n hn x args ds hl hargs hnl himm hgd hpre => ?_, fun fid n hn hef x f args l kk d ds hl h0 hargs hs hfl hd hnl hpre => ?_, fun fid n hn hef x args ds st K hl hargs hs hf' htr => ?_⟩
        · obtain ⟨hlt, hpre⟩ := hpre
          refine hp fid n hn ds hpre ?_ x args hl hargs hnl himm hgd
          rcases hlt with h | ⟨h1, h2⟩
          · exact ihk _ h _
          · rw [h1]; exact ihu _ h2
        · obtain ⟨hlt, hpre⟩ := hpre
          refine hf fid n hn hef d ds hpre ?_ x f args l kk hl h0 hargs hs hfl hd hnl
          rcases hlt with h | ⟨h1, h2⟩
          · exact ihk _ h _
          · rw [h1]; exact ihu _ h2
        · obtain ⟨hlt, htr⟩ := htr
          refine he fid n hn hef ds st K htr ?_ x args hl hargs hs hf'
          rcases hlt with h | ⟨h1, h2⟩
          · exact ihk _ h _
          · rw [h1]; exact ihu _ h2
  refine ⟨fun fid n hn x args ds hl hargs hnl himm hgd hpre => ?_, fun fid n hn hef x f args l kk d ds hl h0 hargs hs hfl hd hnl hpre => ?_, fun fid n hn hef x args ds st K hl hargs hs hf' htr => ?_⟩
  · exact hp fid n hn ds hpre (key _ _) x args hl hargs hnl himm hgd
  · exact hf fid n hn hef d ds hpre (key _ _) x f args l kk hl h0 hargs hs hfl hd hnl
  · exact he fid n hn hef ds st K htr (key _ _) x args hl hargs hs hf'
theorem callFunc_enter {fid : Nat} {fn : Func} (hf : P.funcs[fid]? = some fn) (hn : (fn.name == "runtime.NumGoroutine") = false) (hb : fn.body.isSome = true) (args : Array Value) (w : World) : (callFunc fid args).run P w = .ok (.enter fid args) w := by
  have h1 : fn.name ≠ "runtime.NumGoroutine" := by simpa using hn
  have h2 : fn.body ≠ none := by intro h; rw [h] at hb; cases hb
  simp [callFunc, hf, h1, h2]
end
end Go.Abs
end
section
namespace Go.Abs
section
variable {Γ : Ctx} {Q Q' : Ex → List Ent → St → Prop} {env : List Ent} {st : St}
def Ctx.Mono (Γ : Ctx) : Prop := ∀ f ds st (K K' : D → St → Prop), (∀ d st, K d st → K' d st) → Γ.tr f ds st K → Γ.tr f ds st K'
theorem regW_mono {draw : Bool} {K K' : List Ent → St → Prop} (h : ∀ vs st, K vs st → K' vs st) (htr : Γ.Mono) : ∀ (l : List GI) (env vs : List Ent) (st : St), regW Γ draw l env vs st K → regW Γ draw l env vs st K'
  | [], env, vs, st, hh => h _ _ hh
  | ⟨i, g⟩ :: r, env, vs, st, hh => by
    cases hcm : i.isCallM with
    | true =>
      cases i <;> simp only [Ins.isCallM] at hcm <;> try (cases hcm; done)
      exact ⟨hh.1, hh.2.1, htr _ _ _ _ _ (fun d st' ⟨h1, h2⟩ => ⟨h1, regW_mono h htr r _ _ _ h2⟩) hh.2.2⟩
    | false =>
      cases hf : i.forks draw g with
      | true =>
        rw [regW_fork hcm hf] at hh ⊢
        exact ⟨hh.1, fun e => ⟨(hh.2.1 e).1, regW_mono h htr r _ _ _ (hh.2.1 e).2⟩, fun e => regW_mono h htr r _ _ _ (hh.2.2 e)⟩
      | false =>
        rw [regW_cons hcm hf] at hh ⊢
        exact ⟨hh.1, hh.2.1, fun ha => (hh.2.2 ha).imp fun _ h2 => ⟨h2.1, regW_mono h htr r _ _ _ h2.2⟩⟩
theorem Gh.mono {lo : Nat} {p q : List Ent → St → Prop} (h : ∀ env st, p env st → q env st) : Gh lo p env st → Gh lo q env st
  | ⟨e, s, h1, h2⟩ => ⟨e, s, h1, h _ _ h2⟩
theorem Gh.intro {lo : Nat} {p : List Ent → St → Prop} (h : p env st) : Gh lo p env st := ⟨env, st, .refl _ _, h⟩
theorem wpA_mono (htr : Γ.Mono) : ∀ (a : AC) (Q Q' : Ex → List Ent → St → Prop) (env : List Ent) (st : St), (∀ e env st, Q e env st → Q' e env st) → wpA Γ a Q env st → wpA Γ a Q' env st
  | .reg draw ins cm, Q, Q', env, st, h, hh => Gh.mono (fun env st h2 => regW_mono (fun vs st => h _ _ _) htr _ _ _ _ h2) hh
  | .seq a b, Q, Q', env, st, h, hh => Gh.mono (fun env st h2 => wpA_mono htr a _ _ env st (fun e env st h2 => by
      cases e with
      | normal => exact wpA_mono htr b Q Q' env st h h2
      | exit id => exact h _ _ _ h2
      | ret => exact h _ _ _ h2) h2) hh
  | .cond c a b, Q, Q', env, st, h, hh => Gh.mono (fun env st h2 => by
    refine ⟨h2.1, ?_⟩
    have := h2.2
    cases hd : (c.ev env []).d <;> simp only [hd] at this ⊢
    exact ⟨fun ht => wpA_mono htr a Q Q' env st h (this.1 ht), fun ht => wpA_mono htr b Q Q' env st h (this.2 ht)⟩) hh
  | .block id a, Q, Q', env, st, h, hh => Gh.mono (fun env st h2 => wpA_mono htr a _ _ env st (fun e env st h2 => by
      cases e with
      | normal => exact h _ _ _ h2
      | exit j => simp only at h2 ⊢; split <;> rename_i hj <;> simp only [hj, if_true, if_false] at h2 <;> exact h _ _ _ h2
      | ret => exact h _ _ _ h2) h2) hh
  | .loop a, Q, Q', env, st, h, hh => Gh.mono (fun env st h2 => by
    obtain ⟨I, μ, h1, h2⟩ := h2
    refine ⟨I, μ, h1, fun env st hi => wpA_mono htr a _ _ env st (fun e env' st' h3 => ?_) (h2 env st hi)⟩
    cases e with
    | normal => exact h3
    | exit id => exact h _ _ _ h3
    | ret => exact h _ _ _ h3) hh
  | .exit id, Q, Q', env, st, h, hh => Gh.mono (fun _ _ => h _ _ _) hh
  | .ret, Q, Q', env, st, h, hh => Gh.mono (fun _ _ => h _ _ _) hh
  | .skip, Q, Q', env, st, h, hh => Gh.mono (fun _ _ => h _ _ _) hh
theorem wpA_ghost {a : AC} {env' : List Ent} {st' : St} (g : Ghost Γ.lo env st env' st') (h : wpA Γ a Q env' st') : wpA Γ a Q env st := by
  cases a <;> (obtain ⟨e2, s2, g2, h2⟩ := h; exact ⟨e2, s2, .trans _ _ _ _ _ _ g g2, h2⟩)
def BQ (Γ : Ctx) (id : Nat) (r : AC) (Q : Ex → List Ent → St → Prop) : Ex → List Ent → St → Prop := fun e env st => match e with
  | .normal => wpA Γ r Q env st
  | .exit j => if j = id then wpA Γ r Q env st else Q (.exit j) env st
  | .ret => Q .ret env st
def LQ (Γ : Ctx) (id : Nat) (r : AC) (next : List Ent → St → Prop) (Q : Ex → List Ent → St → Prop) : Ex → List Ent → St → Prop := fun e env st => match e with
  | .normal => next env st
  | .exit j => if j = id then wpA Γ r Q env st else Q (.exit j) env st
  | .ret => Q .ret env st
theorem BQ.normal {id : Nat} {r : AC} (h : wpA Γ r Q env st) : BQ Γ id r Q .normal env st := h
theorem BQ.out {id : Nat} {r : AC} (h : wpA Γ r Q env st) : BQ Γ id r Q (.exit id) env st := by simp only [BQ, if_true]; exact h
theorem BQ.other {id j : Nat} {r : AC} (hj : (j == id) = false) (h : Q (.exit j) env st) : BQ Γ id r Q (.exit j) env st := by simp only [BQ, if_neg (by simpa using hj)]; exact h
theorem BQ.ret {id : Nat} {r : AC} (h : Q .ret env st) : BQ Γ id r Q .ret env st := h
theorem LQ.normal {id : Nat} {r : AC} {next : List Ent → St → Prop} (h : next env st) : LQ Γ id r next Q .normal env st := h
theorem LQ.out {id : Nat} {r : AC} {next : List Ent → St → Prop} (h : wpA Γ r Q env st) : LQ Γ id r next Q (.exit id) env st := by simp only [LQ, if_true]; exact h
theorem LQ.other {id j : Nat} {r : AC} {next : List Ent → St → Prop} (hj : (j == id) = false) (h : Q (.exit j) env st) : LQ Γ id r next Q (.exit j) env st := by simp only [LQ, if_neg (by simpa using hj)]; exact h
theorem LQ.ret {id : Nat} {r : AC} {next : List Ent → St → Prop} (h : Q .ret env st) : LQ Γ id r next Q .ret env st := h
theorem wp_assoc {a b c : AC} (h : wpA Γ (.seq a (.seq b c)) Q env st) : wpA Γ (.seq (.seq a b) c) Q env st := by
  obtain ⟨e1, s1, g1, h1⟩ := h
  refine ⟨e1, s1, g1, e1, s1, .refl _ _, ?_⟩
  have : ∀ (Q1 Q2 : Ex → List Ent → St → Prop), Q1 = Q2 → wpA Γ a Q1 e1 s1 → wpA Γ a Q2 e1 s1 := fun _ _ e h => e ▸ h
  refine this _ _ ?_ h1
  funext e env st
  cases e with
  | normal => exact propext ⟨fun ⟨e2, s2, g2, h2⟩ => wpA_ghost g2 h2, fun h => ⟨_, _, .refl _ _, h⟩⟩
  | exit id => rfl
  | ret => rfl
theorem wp_skipseq {b : AC} (h : wpA Γ b Q env st) : wpA Γ (.seq .skip b) Q env st := .intro (.intro h)
theorem wp_skip (h : Q .normal env st) : wpA Γ .skip Q env st := .intro h
theorem wp_retseq {b : AC} (h : Q .ret env st) : wpA Γ (.seq .ret b) Q env st := .intro (.intro h)
theorem wp_ret (h : Q .ret env st) : wpA Γ .ret Q env st := .intro h
theorem wp_exitseq {id : Nat} {b : AC} (h : Q (.exit id) env st) : wpA Γ (.seq (.exit id) b) Q env st := .intro (.intro h)
theorem wp_exit {id : Nat} (h : Q (.exit id) env st) : wpA Γ (.exit id) Q env st := .intro h
theorem wp_blockseq {id : Nat} {a r : AC} (h : wpA Γ a (BQ Γ id r Q) env st) (htr : Γ.Mono) : wpA Γ (.seq (.block id a) r) Q env st := by
  refine .intro (.intro (wpA_mono htr a _ _ _ _ (fun e env st h => ?_) h))
  cases e with
  | normal => exact h
  | exit j => simp only [BQ] at h ⊢; split <;> rename_i hj <;> simp only [hj, if_true, if_false] at h <;> exact h
  | ret => exact h
theorem wp_block {id : Nat} {a : AC} (h : wpA Γ a (BQ Γ id .skip Q) env st) (htr : Γ.Mono) (hQ : ∀ e env env' st st', Ghost Γ.lo env st env' st' → Q e env' st' → Q e env st) : wpA Γ (.block id a) Q env st := by
  refine .intro (wpA_mono htr a _ _ _ _ (fun e env st h => ?_) h)
  have hs : ∀ env st, wpA Γ .skip Q env st → Q .normal env st := fun env st ⟨e2, s2, g2, h2⟩ => hQ _ _ _ _ _ g2 h2
  cases e with
  | normal => exact hs _ _ h
  | exit j => simp only [BQ] at h ⊢; split <;> rename_i hj <;> simp only [hj, if_true, if_false] at h <;> first | exact hs _ _ h | exact h
  | ret => exact h
def CQ (next : List Ent → St → Prop) (Q : Ex → List Ent → St → Prop) : Ex → List Ent → St → Prop := fun e env st => match e with
  | .normal => next env st
  | .exit j => Q (.exit j) env st
  | .ret => Q .ret env st
theorem CQ.normal {next : List Ent → St → Prop} (h : next env st) : CQ next Q .normal env st := h
theorem CQ.other {next : List Ent → St → Prop} {j : Nat} (h : Q (.exit j) env st) : CQ next Q (.exit j) env st := h
theorem CQ.ret {next : List Ent → St → Prop} (h : Q .ret env st) : CQ next Q .ret env st := h
def BQ0 (id : Nat) (Q : Ex → List Ent → St → Prop) : Ex → List Ent → St → Prop := fun e env st => match e with
  | .normal => Q .normal env st
  | .exit j => if j = id then Q .normal env st else Q (.exit j) env st
  | .ret => Q .ret env st
theorem BQ0.normal {id : Nat} (h : Q .normal env st) : BQ0 id Q .normal env st := h
theorem BQ0.out {id : Nat} (h : Q .normal env st) : BQ0 id Q (.exit id) env st := by simp only [BQ0, if_true]; exact h
theorem BQ0.other {id j : Nat} (hj : (j == id) = false) (h : Q (.exit j) env st) : BQ0 id Q (.exit j) env st := by simp only [BQ0, if_neg (by simpa using hj)]; exact h
theorem BQ0.ret {id : Nat} (h : Q .ret env st) : BQ0 id Q .ret env st := h
theorem wp_blockL {id : Nat} {a : AC} (h : wpA Γ a (BQ0 id Q) env st) (htr : Γ.Mono) : wpA Γ (.block id a) Q env st := by
  refine .intro (wpA_mono htr a _ _ _ _ (fun e env st h => ?_) h)
  cases e with
  | normal => exact h
  | exit j => simp only [BQ0] at h ⊢; split <;> rename_i hj <;> simp only [hj, if_true, if_false] at h <;> exact h
  | ret => exact h
/-- a loop: a family of states -/
theorem wp_for (htr : Γ.Mono) {a r : AC} {id : Nat} {ι : Type} (F : ι → List Ent) (G : ι → List (Nat × Blk)) (c : Nat) (P : ι → Prop) (μ : ι → Nat) (i0 : ι)
    (hP : P i0) (h0 : Ghost Γ.lo env st (F i0) ⟨c, G i0⟩)
    (hr : ∀ i, P i → wpA Γ a (LQ Γ id r (fun env' st' => ∃ j, P j ∧ μ j < μ i ∧ Ghost Γ.lo env' st' (F j) ⟨c, G j⟩) Q) (F i) ⟨c, G i⟩) : wpA Γ (.seq (.block id (.loop a)) r) Q env st := by
  let W : List Ent → St → Nat → Prop := fun env st k => ∃ i, env = F i ∧ st = ⟨c, G i⟩ ∧ P i ∧ μ i = k
  have least : ∀ env st, (∃ k, W env st k) → ∃ k, W env st k ∧ ∀ k', W env st k' → k ≤ k' := by
    intro env st ⟨k, hk⟩
    induction k using Nat.strongRecOn with
    | _ k ih =>
      by_cases h : ∃ k', k' < k ∧ W env st k'
      · obtain ⟨k', h1, h2⟩ := h; exact ih k' h1 h2
      · exact ⟨k, hk, fun k' hk' => by
          rcases Nat.lt_or_ge k' k with h1 | h1
          · exact absurd ⟨k', h1, hk'⟩ h
          · exact h1⟩
  open Classical in
  refine .intro (.intro ⟨_, _, h0, fun env st => ∃ k, W env st k, fun env st => if h : ∃ k, W env st k then Classical.choose (least env st h) else 0, ⟨_, i0, rfl, rfl, hP, rfl⟩, fun env st hk => ?_⟩)
  obtain ⟨⟨i, e1, e2, e3, e5⟩, hmin⟩ := Classical.choose_spec (least env st hk)
  have := hr i e3
  rw [← e1, ← e2] at this
  refine wpA_mono htr a _ _ env st ?_ this
  · intro e env' st' h
    cases e with
    | normal =>
      obtain ⟨j, b3, b5, g⟩ := h
      have hW : W (F j) ⟨c, G j⟩ (μ j) := ⟨j, rfl, rfl, b3, rfl⟩
      refine ⟨F j, ⟨c, G j⟩, g, ⟨_, hW⟩, ?_⟩
      show (if h : ∃ k, W (F j) ⟨c, G j⟩ k then Classical.choose (least _ _ h) else 0) < (if h : ∃ k, W env st k then Classical.choose (least env st h) else 0)
      rw [dif_pos ⟨_, hW⟩, dif_pos hk, ← e5]
      exact Nat.lt_of_le_of_lt ((Classical.choose_spec (least _ _ ⟨_, hW⟩)).2 _ hW) b5
    | exit j => simp only [LQ] at h ⊢; split <;> rename_i hj <;> simp only [hj, if_true, if_false] at h <;> exact h
    | ret => exact h
def LQ0 (id : Nat) (next : List Ent → St → Prop) (Q : Ex → List Ent → St → Prop) : Ex → List Ent → St → Prop := fun e env st => match e with
  | .normal => next env st
  | .exit j => if j = id then Q .normal env st else Q (.exit j) env st
  | .ret => Q .ret env st
theorem LQ0.normal {id : Nat} {next : List Ent → St → Prop} (h : next env st) : LQ0 id next Q .normal env st := h
theorem LQ0.out {id : Nat} {next : List Ent → St → Prop} (h : Q .normal env st) : LQ0 id next Q (.exit id) env st := by simp only [LQ0, if_true]; exact h
theorem LQ0.other {id j : Nat} {next : List Ent → St → Prop} (hj : (j == id) = false) (h : Q (.exit j) env st) : LQ0 id next Q (.exit j) env st := by simp only [LQ0, if_neg (by simpa using hj)]; exact h
theorem LQ0.ret {id : Nat} {next : List Ent → St → Prop} (h : Q .ret env st) : LQ0 id next Q .ret env st := h
/-- a loop: a family of states -/
theorem wp_forL (htr : Γ.Mono) {a : AC} {id : Nat} {ι : Type} (F : ι → List Ent) (G : ι → List (Nat × Blk)) (c : Nat) (P : ι → Prop) (μ : ι → Nat) (i0 : ι)
    (hP : P i0) (h0 : Ghost Γ.lo env st (F i0) ⟨c, G i0⟩)
    (hr : ∀ i, P i → wpA Γ a (LQ0 id (fun env' st' => ∃ j, P j ∧ μ j < μ i ∧ Ghost Γ.lo env' st' (F j) ⟨c, G j⟩) Q) (F i) ⟨c, G i⟩) : wpA Γ (.block id (.loop a)) Q env st := by
  let W : List Ent → St → Nat → Prop := fun env st k => ∃ i, env = F i ∧ st = ⟨c, G i⟩ ∧ P i ∧ μ i = k
  have least : ∀ env st, (∃ k, W env st k) → ∃ k, W env st k ∧ ∀ k', W env st k' → k ≤ k' := by
    intro env st ⟨k, hk⟩
    induction k using Nat.strongRecOn with
    | _ k ih =>
      by_cases h : ∃ k', k' < k ∧ W env st k'
      · obtain ⟨k', h1, h2⟩ := h; exact ih k' h1 h2
      · exact ⟨k, hk, fun k' hk' => by
          rcases Nat.lt_or_ge k' k with h1 | h1
          · exact absurd ⟨k', h1, hk'⟩ h
          · exact h1⟩
  open Classical in
  refine .intro ⟨_, _, h0, fun env st => ∃ k, W env st k, fun env st => if h : ∃ k, W env st k then Classical.choose (least env st h) else 0, ⟨_, i0, rfl, rfl, hP, rfl⟩, fun env st hk => ?_⟩
  obtain ⟨⟨i, e1, e2, e3, e5⟩, hmin⟩ := Classical.choose_spec (least env st hk)
  have := hr i e3
  rw [← e1, ← e2] at this
  refine wpA_mono htr a _ _ env st ?_ this
  · intro e env' st' h
    cases e with
    | normal =>
      obtain ⟨j, b3, b5, g⟩ := h
      have hW : W (F j) ⟨c, G j⟩ (μ j) := ⟨j, rfl, rfl, b3, rfl⟩
      refine ⟨F j, ⟨c, G j⟩, g, ⟨_, hW⟩, ?_⟩
      show (if h : ∃ k, W (F j) ⟨c, G j⟩ k then Classical.choose (least _ _ h) else 0) < (if h : ∃ k, W env st k then Classical.choose (least env st h) else 0)
      rw [dif_pos ⟨_, hW⟩, dif_pos hk, ← e5]
      exact Nat.lt_of_le_of_lt ((Classical.choose_spec (least _ _ ⟨_, hW⟩)).2 _ hW) b5
    | exit j => simp only [LQ0] at h ⊢; split <;> rename_i hj <;> simp only [hj, if_true, if_false] at h <;> exact h
    | ret => exact h
def nth : List Ent → Nat → Ent
  | [], _ => .un
  | a :: _, 0 => a
  | _ :: r, n + 1 => nth r n
theorem nth_getD : ∀ (l : List Ent) (n : Nat), l.getD n .un = nth l n
  | [], n => by simp [nth]
  | a :: _, 0 => by simp [nth]
  | _ :: r, n + 1 => by simpa [nth] using nth_getD r n
def evR (env rs : List Ent) : Src → Ent
  | .s n => nth env n
  | .l p => bif Nat.blt p rs.length then nth rs (rs.length - 1 - p) else .un
  | .c d => ⟨true, d⟩
theorem evR_rev (env rs : List Ent) : Src.ev env rs.reverse = evR env rs := by
  funext s
  cases s with
  | s n => exact nth_getD env n
  | l p =>
    simp only [Src.ev, evR]
    cases h : Nat.blt p rs.length with
    | true =>
      have : p < rs.length := by simp [Nat.blt] at h; omega
      rw [cond_true, ← nth_getD]
      simp only [List.getD]
      rw [List.getElem?_reverse this]
    | false =>
      have : ¬ p < rs.length := by intro e; have : Nat.blt p rs.length = true := by { simp [Nat.blt]; omega }; rw [this] at h; cases h
      rw [cond_false]
      simp [List.getD, List.getElem?_eq_none (show rs.reverse.length ≤ p by simp; omega)]
  | c d => rfl
def regR (Γ : Ctx) (draw : Bool) (l : List GI) (env rs : List Ent) (nx : Nat) (m : List (Nat × Blk)) (K : List Ent → St → Prop) : Prop := regW Γ draw l env rs.reverse ⟨nx, m⟩ K
def cmR (env rs : List Ent) : List (Nat × Nat) → List Ent
  | [] => env
  | (s, p) :: r => cmR (env.set s (evR [] rs (.l p))) rs r
theorem cmR_eq (rs : List Ent) : ∀ (cm : List (Nat × Nat)) (env : List Ent), commit env rs.reverse cm = cmR env rs cm
  | [], env => rfl
  | (s, p) :: r, env => by
    simp only [commit, cmR]
    rw [cmR_eq rs r, ← congrFun (evR_rev [] rs) (.l p)]
    rfl
/-- a region, then more -/
theorem wp_regseq {draw : Bool} {ins : List GI} {cm : List (Nat × Nat)} {b : AC} {nx : Nat} {m : List (Nat × Blk)}
    (h : regR Γ draw ins env [] nx m (fun vs st' => wpA Γ b Q (commit env vs cm) st')) : wpA Γ (.seq (.reg draw ins cm) b) Q env ⟨nx, m⟩ := .intro (.intro h)
theorem wp_reg {draw : Bool} {ins : List GI} {cm : List (Nat × Nat)} {nx : Nat} {m : List (Nat × Blk)}
    (h : regR Γ draw ins env [] nx m (fun vs st' => Q .normal (commit env vs cm) st')) : wpA Γ (.reg draw ins cm) Q env ⟨nx, m⟩ := .intro h
theorem reg_end {draw : Bool} {cm : List (Nat × Nat)} {b : AC} {nx nx' : Nat} {m : List (Nat × Blk)} {rs env0 env' : List Ent} (h : wpA Γ b Q env' ⟨nx', m⟩)
    (he : cmR env rs cm = env' := by exact rfl) (hn : nx + rs.length = nx' := by simp only [List.length_cons, List.length_nil, Nat.reduceAdd]; exact rfl) : regR Γ draw [] env0 rs nx m (fun vs st' => wpA Γ b Q (commit env vs cm) st') := by
  subst he; subst hn
  simp only [regR, regW, List.length_reverse, cmR_eq]
  exact h
theorem reg_fin {draw : Bool} {cm : List (Nat × Nat)} {nx nx' : Nat} {m : List (Nat × Blk)} {rs env0 env' : List Ent} (h : Q .normal env' ⟨nx', m⟩)
    (he : cmR env rs cm = env' := by exact rfl) (hn : nx + rs.length = nx' := by simp only [List.length_cons, List.length_nil, Nat.reduceAdd]; exact rfl) : regR Γ draw [] env0 rs nx m (fun vs st' => Q .normal (commit env vs cm) st') := by
  subst he; subst hn
  simp only [regR, regW, List.length_reverse, cmR_eq]
  exact h
/-- a condition that decides between two ways on, what follows kept whole -/
theorem wp_condseq {c : Src} {a b r : AC} {t : Bool} (h1 : t = true → wpA Γ (.seq a r) Q env st) (h2 : t = false → wpA Γ (.seq b r) Q env st) (hc : evR env [] c = ⟨true, .bool t⟩ := by exact rfl) : wpA Γ (.seq (.cond c a b) r) Q env st := by
  have hc' : c.ev env [] = ⟨true, .bool t⟩ := by rw [← hc, ← evR_rev]; rfl
  refine .intro (.intro ?_)
  simp only [hc']
  refine ⟨trivial, fun ht => ?_, fun ht => ?_⟩
  · obtain ⟨e, s, g, h⟩ := h1 ht; exact wpA_ghost g h
  · obtain ⟨e, s, g, h⟩ := h2 ht; exact wpA_ghost g h
theorem wp_cond {c : Src} {a b : AC} {t : Bool} (h1 : t = true → wpA Γ a Q env st) (h2 : t = false → wpA Γ b Q env st) (hc : evR env [] c = ⟨true, .bool t⟩ := by exact rfl) : wpA Γ (.cond c a b) Q env st := by
  have hc' : c.ev env [] = ⟨true, .bool t⟩ := by rw [← hc, ← evR_rev]; rfl
  refine .intro ?_
  simp only [hc']
  exact ⟨trivial, h1, h2⟩
theorem Ghost.to {lo c nx nx' : Nat} {env env' : List Ent} {m m' : List (Nat × Blk)} (σ : List (Nat × Nat)) (hc : nx' = c) (h : RnOK lo c σ = true) (he : RnE lo σ env env') (hm : RnM lo c σ m m') : Ghost lo env ⟨nx, m⟩ env' ⟨nx', m'⟩ := by
  subst hc; exact .ren σ nx' env env' nx m m' h he hm
theorem take_map_len {α β : Type} (q : α → β) (xs : List α) : (xs.map q).take xs.length = xs.map q := List.take_of_length_le (by simp)
theorem noLocs_map {α : Type} {q : α → D} (h : ∀ x, (q x).noLoc = true) : ∀ xs : List α, noLocs (xs.map q) = true
  | [] => rfl
  | a :: r => by simp only [List.map_cons, noLocs, h a, noLocs_map h r, Bool.and_true]
theorem Ghost.fz {lo : Nat} {env env' env2 : List Ent} {nx k : Nat} {m m' : List (Nat × Blk)} {es : List D} {st2 : St} (l : Nat) (hl : look m l = some (.buf k es)) (hn : noLocs es = true) (he : fzE l k es env = env') (hm : fzM l k es (delL m l) = m') (h : Ghost lo env' ⟨nx, m'⟩ env2 st2) : Ghost lo env ⟨nx, m⟩ env2 st2 := by
  have := Ghost.frz (lo := lo) l env ⟨nx, m⟩
  simp only [Abs.frz, hl, hn, cond_true, he, hm] at this
  exact .trans _ _ _ _ _ _ this h
theorem wp_fz {a : AC} {nx k : Nat} {m m' : List (Nat × Blk)} {es : List D} {env env' : List Ent} (l : Nat) (h : wpA Γ a Q env' ⟨nx, m'⟩) (hl : look m l = some (.buf k es) := by exact rfl) (hn : noLocs es = true := by first | exact rfl | exact noLocs_map (fun _ => rfl) _)
    (he : fzE l k es env = env' := by simp only [fzE, fzD, fzL, fzM, fzB, delL, Nat.reduceEqDiff, if_true, if_false, and_self, true_and, and_true, false_and, and_false, Nat.zero_add, List.length_map, Nat.le_refl, List.drop_zero, take_map_len, reduceCtorEq, List.length_cons, List.length_nil, Nat.reduceAdd, Nat.reduceLeDiff]; exact rfl)
    (hm : fzM l k es (delL m l) = m' := by simp only [fzE, fzD, fzL, fzM, fzB, delL, Nat.reduceEqDiff, if_true, if_false, and_self, true_and, and_true, false_and, and_false, Nat.zero_add, List.length_map, Nat.le_refl, List.drop_zero, take_map_len, reduceCtorEq, List.length_cons, List.length_nil, Nat.reduceAdd, Nat.reduceLeDiff]; exact rfl) : wpA Γ a Q env ⟨nx, m⟩ :=
  wpA_ghost (Ghost.fz l hl hn he hm (.refl _ _)) h
theorem RnE.nil {lo : Nat} {σ : List (Nat × Nat)} : RnE lo σ [] [] := trivial
theorem RnE.un {lo : Nat} {σ : List (Nat × Nat)} {a : Ent} {r s : List Ent} (h : RnE lo σ r s) : RnE lo σ (a :: r) (.un :: s) := ⟨.inr rfl, h⟩
theorem RnE.eq {lo : Nat} {σ : List (Nat × Nat)} {ok : Bool} {d d' : D} {r s : List Ent} (hd : rnD lo σ d = some d') (h : RnE lo σ r s) : RnE lo σ (⟨ok, d⟩ :: r) (⟨ok, d'⟩ :: s) := ⟨.inl ⟨rfl, .inr (.inl hd)⟩, h⟩
theorem RnE.nl {lo : Nat} {σ : List (Nat × Nat)} {ok : Bool} {d d' : D} {r s : List Ent} (hd : d' = d) (hn : d.noLoc = true) (h : RnE lo σ r s) : RnE lo σ (⟨ok, d⟩ :: r) (⟨ok, d'⟩ :: s) := ⟨.inl ⟨rfl, .inl ⟨hd, hn⟩⟩, h⟩
theorem RnE.ni {lo : Nat} {σ : List (Nat × Nat)} {ok : Bool} {d d' : D} {r s : List Ent} (hd : NlD d d') (h : RnE lo σ r s) : RnE lo σ (⟨ok, d⟩ :: r) (⟨ok, d'⟩ :: s) := ⟨.inl ⟨rfl, .inr (.inr hd)⟩, h⟩
section
variable {lo c : Nat} {σ : List (Nat × Nat)} {m r : List (Nat × Blk)}
theorem RnM.nil : RnM lo c σ m [] := trivial
theorem RnM.nl {k l' : Nat} {es es' : List D} (l : Nat) (hl : rnN lo σ l = some l') (hm : look m l = some (.buf k es)) (he : es' = es) (hn : noLocs es = true) (h : RnM lo c σ m r) : RnM lo c σ m ((l', .buf k es') :: r) :=
  ⟨.inl ⟨l, _, hl, hm, rfl, .inl ⟨he, hn⟩⟩, h⟩
theorem RnM.eq {k l' : Nat} {es es' : List D} (l : Nat) (hl : rnN lo σ l = some l') (hm : look m l = some (.buf k es)) (he : rnDs lo σ es = some es') (h : RnM lo c σ m r) : RnM lo c σ m ((l', .buf k es') :: r) :=
  ⟨.inl ⟨l, _, hl, hm, rfl, .inr (.inl he)⟩, h⟩
theorem RnM.ni {k l' : Nat} {es es' : List D} (l : Nat) (hl : rnN lo σ l = some l') (hm : look m l = some (.buf k es)) (he : NlDs es es') (h : RnM lo c σ m r) : RnM lo c σ m ((l', .buf k es') :: r) :=
  ⟨.inl ⟨l, _, hl, hm, rfl, .inr (.inr he)⟩, h⟩
theorem RnM.idn {k l' : Nat} {es' : List D} (hl : rnN lo σ l' = some l') (hm : look m l' = some (.buf k es')) (hn : noLocs es' = true) (h : RnM lo c σ m r) : RnM lo c σ m ((l', .buf k es') :: r) := .nl l' hl hm rfl hn h
theorem RnM.ide {k l' : Nat} {es' es : List D} (hl : rnN lo σ l' = some l') (hm : look m l' = some (.buf k es)) (he : rnDs lo σ es = some es') (h : RnM lo c σ m r) : RnM lo c σ m ((l', .buf k es') :: r) := .eq l' hl hm he h
theorem RnM.mt {k l' : Nat} {es' : List D} (h1 : Nat.ble lo l' = true) (h2 : Nat.blt l' c = true) (h3 : σ.all (fun p => !Nat.beq p.2 l') = true) (he : es' = []) (h : RnM lo c σ m r) : RnM lo c σ m ((l', .buf k es') :: r) :=
  ⟨.inr ⟨h1, h2, h3, k, by rw [he]⟩, h⟩
theorem RnM.it {l' p p' : Nat} {s s' : List UInt8} (l : Nat) (hl : rnN lo σ l = some l') (hm : look m l = some (.iter s p)) (hs : s' = s) (hp : p' = p) (h : RnM lo c σ m r) : RnM lo c σ m ((l', .iter s' p') :: r) :=
  ⟨.inl ⟨l, _, hl, hm, hs, hp⟩, h⟩
theorem RnM.idi {l' p p' : Nat} {s s' : List UInt8} (hl : rnN lo σ l' = some l') (hm : look m l' = some (.iter s p)) (hs : s' = s) (hp : p' = p) (h : RnM lo c σ m r) : RnM lo c σ m ((l', .iter s' p') :: r) := .it l' hl hm hs hp h
end
mutual
def xC (m : List (Nat × Blk)) : Sh → D → D
  | .a, d => match d with
    | .nils => .sl 0 []
    | d => d
  | .sl k cs, d => match d with
    | .nils => .sl k []
    | .own l k' i c => .sl k' ((((bufEls m l).drop i).take c).map fun e => match e with
      | .agg ds => .agg (xL m cs ds)
      | e => xH m cs e)
    | d => d
  | .pt cs, d => match d with
    | .ptr l k i o => .ref k ((bufEls m l).map fun e => match e with
      | .agg ds => .agg (xL m cs ds)
      | e => xH m cs e) i o
    | d => d
def xH (m : List (Nat × Blk)) : List Sh → D → D
  | [], d => d
  | s :: _, d => xC m s d
def xL (m : List (Nat × Blk)) : List Sh → List D → List D
  | [], ds => ds
  | s :: r, ds => match ds with
    | [] => []
    | d :: ds => xC m s d :: xL m r ds
end
def xV (m : List (Nat × Blk)) (cs : List Sh) : D → D
  | .agg ds => .agg (xL m cs ds)
  | e => xH m cs e
mutual
def xCO (m : List (Nat × Blk)) : Sh → D → Prop
  | .a, d => d.noLoc = true
  | .sl _ cs, d => match d with
    | .own l k' i c => bufOK m l k' (i + c) ∧ ∀ e ∈ ((bufEls m l).drop i).take c, (match e with
      | .agg ds => xLO m cs ds
      | e => xHO m cs e)
    | d => d.noLoc = true
  | .pt cs, d => match d with
    | .ptr l k _ _ => bufOK m l k 0 ∧ ∀ e ∈ bufEls m l, (match e with
      | .agg ds => xLO m cs ds
      | e => xHO m cs e)
    | d => d.noLoc = true
def xHO (m : List (Nat × Blk)) : List Sh → D → Prop
  | [], d => d.noLoc = true
  | s :: _, d => xCO m s d
def xLO (m : List (Nat × Blk)) : List Sh → List D → Prop
  | [], ds => noLocs ds = true
  | s :: r, ds => match ds with
    | [] => True
    | d :: ds => xCO m s d ∧ xLO m r ds
end
def xVO (m : List (Nat × Blk)) (cs : List Sh) : D → Prop
  | .agg ds => xLO m cs ds
  | e => xHO m cs e
mutual
theorem xC_eq (m : List (Nat × Blk)) : ∀ (s : Sh) (d : D), purC m s d = xC m s d ∧ (purCO m s d ↔ xCO m s d)
  | .a, d => by cases d <;> simp only [purC, xC, purCO, xCO] <;> exact ⟨trivial, trivial⟩
  | .sl k cs, d => by
    cases d <;> simp only [purC, xC, purCO, xCO] <;> first
      | exact ⟨trivial, trivial⟩
      | skip
    rename_i l k' i c
    exact ⟨congrArg (D.sl k') (List.map_congr_left fun e _ => (xE_eq m cs e).1), and_congr_right fun _ => forall_congr' fun e => imp_congr_right fun _ => (xE_eq m cs e).2⟩
  | .pt cs, d => by
    cases d <;> simp only [purC, xC, purCO, xCO] <;> first
      | exact ⟨trivial, trivial⟩
      | skip
    rename_i l k' i c
    exact ⟨congrArg (fun x => D.ref k' x i c) (List.map_congr_left fun e _ => (xE_eq m cs e).1), and_congr_right fun _ => forall_congr' fun e => imp_congr_right fun _ => (xE_eq m cs e).2⟩
theorem xE_eq (m : List (Nat × Blk)) : ∀ (cs : List Sh) (d : D), purV m cs d = (match d with
      | .agg ds => .agg (xL m cs ds)
      | e => xH m cs e) ∧ (purVO m cs d ↔ (match d with
      | .agg ds => xLO m cs ds
      | e => xHO m cs e))
  | [], d => by cases d <;> simp only [purV, xH, xL, purVO, xHO, xLO, D.noLoc] <;> first | exact ⟨trivial, Iff.rfl⟩ | exact ⟨trivial, trivial⟩
  | s :: r, d => by
    cases d <;> simp only [purV, xH, purVO, xHO] <;> first
      | exact xC_eq m s _
      | skip
    rename_i ds
    exact ⟨congrArg D.agg (xL_eq m (s :: r) ds).1, (xL_eq m (s :: r) ds).2⟩
theorem xL_eq (m : List (Nat × Blk)) : ∀ (cs : List Sh) (ds : List D), purL m cs ds = xL m cs ds ∧ (purLO m cs ds ↔ xLO m cs ds)
  | [], ds => by simp only [purL, xL, purLO, xLO]; exact ⟨trivial, trivial⟩
  | s :: r, [] => by simp only [purL, xL, purLO, xLO]; exact ⟨trivial, trivial⟩
  | s :: r, d :: ds => by
    simp only [purL, xL, purLO, xLO, (xC_eq m s d).1, (xL_eq m r ds).1]
    exact ⟨trivial, and_congr (xC_eq m s d).2 (xL_eq m r ds).2⟩
end
theorem xV_eq (m : List (Nat × Blk)) (cs : List Sh) (d : D) : purV m cs d = xV m cs d ∧ (purVO m cs d ↔ xVO m cs d) := by
  have := xE_eq m cs d
  cases d <;> exact this
def rdArgs (m : List (Nat × Blk)) : List (List Sh) → List D → List D
  | _, [] => []
  | [], d :: r => xV m [.a] d :: rdArgs m [] r
  | s :: ss, d :: r => xV m s d :: rdArgs m ss r
def rdArgsO (m : List (Nat × Blk)) : List (List Sh) → List D → Prop
  | _, [] => True
  | [], d :: r => xVO m [.a] d ∧ rdArgsO m [] r
  | s :: ss, d :: r => xVO m s d ∧ rdArgsO m ss r
theorem rdArgs_eq (m : List (Nat × Blk)) : ∀ (ss : List (List Sh)) (ds : List D), purs m ss ds = rdArgs m ss ds ∧ (pursO m ss ds ↔ rdArgsO m ss ds)
  | ss, [] => by simp [purs, rdArgs, pursO, rdArgsO]
  | [], d :: r => by
    simp only [purs, rdArgs, pursO, rdArgsO, (xV_eq m [.a] d).1, (rdArgs_eq m [] r).1]
    exact ⟨trivial, and_congr (xV_eq m _ d).2 (rdArgs_eq m [] r).2⟩
  | s :: ss, d :: r => by
    simp only [purs, rdArgs, pursO, rdArgsO, (xV_eq m s d).1, (rdArgs_eq m ss r).1]
    exact ⟨trivial, and_congr (xV_eq m _ d).2 (rdArgs_eq m ss r).2⟩
def Res (a : AFunc) (d : D) : Ex → List Ent → St → Prop := fun e env st => e.home ∧ resO st.m env a.res ∧ retPO a env st ∧ retP a env st = d
def xret (a : AFunc) (env : List Ent) (m : List (Nat × Blk)) : D := match a.res with
  | [r] => xV m (a.rsh.getD 0 []) (res1 m env r)
  | rs => .tup (rdArgs m a.rsh (ress m env rs))
def xretO (a : AFunc) (env : List Ent) (m : List (Nat × Blk)) : Prop := match a.res with
  | [r] => xVO m (a.rsh.getD 0 []) (res1 m env r)
  | rs => rdArgsO m a.rsh (ress m env rs)
theorem res_of {a : AFunc} {d : D} {e : Ex} {nx : Nat} {m : List (Nat × Blk)} (he : e.home) (h1 : resO m env a.res) (h2 : xretO a env m) (h3 : xret a env m = d) : Res a d e env ⟨nx, m⟩ := by
  refine ⟨he, h1, ?_, ?_⟩
  · unfold retPO; unfold xretO at h2
    split <;> rename_i hr
    · rw [hr] at h2; exact (xV_eq _ _ _).2.2 h2
    · split at h2
      · rename_i hr2; exact absurd hr2 (hr _)
      · exact (rdArgs_eq _ _ _).2.2 h2
  · unfold retP; unfold xret at h3
    split <;> rename_i hr
    · rw [hr] at h3; rw [(xV_eq _ _ _).1]; exact h3
    · split at h3
      · rename_i hr2; exact absurd hr2 (hr _)
      · rw [(rdArgs_eq _ _ _).1]; exact h3
def ResF (a : AFunc) (k : Nat) (vd sd : D) : Ex → List Ent → St → Prop := fun e env st => e.home ∧ resO st.m env a.res ∧ (retRaw a env st).noLoc = true ∧ retRaw a env st = vd ∧ look st.m 0 = some (.buf k [sd]) ∧ sd.noLoc = true
theorem resF_of {a : AFunc} {k : Nat} {vd sd : D} {e : Ex} {nx : Nat} {m : List (Nat × Blk)} (he : e.home) (h1 : resO m env a.res) (h2 : retRaw a env ⟨nx, m⟩ = vd) (h3 : look m 0 = some (.buf k [sd])) (hn : vd.noLoc = true) (hs : sd.noLoc = true) : ResF a k vd sd e env ⟨nx, m⟩ := ⟨he, h1, by rw [h2]; exact hn, h2, h3, hs⟩
end
end Go.Abs
end
