/- A part of the proofs of the statements of package linchpinlaw33: AbsG, AbsH, AbsI, AbsJ, AbsK, AbsL, AbsE, AbsF. -/
import Derived.Orders
import Derived.Test.YtbpdiikonpbgeaaGreatDoorP02
set_option linter.all false
section
namespace Go.Abs
variable [Glob]
section
variable {ν : List (Nat × Nat)} {x : X} {f : Nat → Option Blk} {m : List (Nat × Blk)}
/-- the call's own blocks, counted among those that are not written -/
def X.froz (x : X) (f : Nat → Option Blk) : X := ⟨x.w, fun b => x.I b ∨ ∃ l p, x.β l = some p ∧ p.1 = b ∧ f l ≠ none, x.β⟩
theorem le_froz (x : X) (f : Nat → Option Blk) : Le x (x.froz f) := ⟨fun _ h => .inl h, fun _ _ => rfl, fun _ _ h => h⟩
theorem D.noLoc_agg (ds : List D) : (D.agg ds).noLoc = noLocs ds := by simp [D.noLoc]
theorem buf_full {l k n : Nat} (hs : Sim ν x f) (hag : ∀ l, look m l ≠ none → f l = look m l) (hb : bufOK m l k n) {b base tot : Nat} (hβ : x.β l = some (b, base, tot)) :
    f l = some (.buf k (bufEls m l)) ∧ n ≤ (bufEls m l).length ∧ ¬ x.I b ∧ BlkR ν x b base tot (.buf k (bufEls m l)) := by
  have hne : look m l ≠ none := by
    intro h; simp [bufOK, h] at hb
  obtain ⟨g1, g2, _⟩ := buf_el hs (hag l hne) hb
  exact ⟨g1, g2, hs.own l _ b base tot g1 hβ⟩
/-- a row of elements in a block -/
theorem row_pure {k : Nat} {es : List D} {cs : List Sh} {g : Nat → Nat → Value} (hk0 : 0 < k)
    (hV : ∀ (e : D) (c : Nat → Value), e.cells.length = k → (∀ j, j < k → RD ν x (c j) (e.cells.getD j .any)) → purVO m cs e →
      (purV m cs e).cells.length = k ∧ (purV m cs e).noLoc = true ∧ ∀ j, j < k → RD ν (x.froz f) (c j) ((purV m cs e).cells.getD j .any))
    (hes : ∀ i, i < es.length → (es.getD i .any).cells.length = k ∧ ∀ j, j < k → RD ν x (g i j) ((es.getD i .any).cells.getD j .any))
    (ho : ∀ e ∈ es, purVO m cs e) (i : Nat) (hi : i < es.length) :
    ((es.map (purV m cs)).getD i .any).cells.length = k ∧ ((es.map (purV m cs)).getD i .any).noLoc = true ∧ ∀ j, j < k → RD ν (x.froz f) (g i j) (((es.map (purV m cs)).getD i .any).cells.getD j .any) := by
  have e1 : (es.map (purV m cs)).getD i .any = purV m cs (es.getD i .any) := by simp [List.getD, hi]
  rw [e1]
  exact hV _ (g i) (hes i hi).1 (hes i hi).2 (ho _ (by rw [getD_lt _ _ _ hi]; exact List.getElem_mem _))
mutual
theorem purC_sound (hs : Sim ν x f) (hag : ∀ l, look m l ≠ none → f l = look m l) : ∀ (s : Sh) (v : Value) (d : D), RD ν x v d → purCO m s d →
    RD ν (x.froz f) v (purC m s d) ∧ (purC m s d).noLoc = true ∧ (d.cells.length = 1 → d.isAgg = false → (purC m s d).cells = [purC m s d])
  | .a, v, d, h, ho => by
    simp only [purCO] at ho
    have hm : RD ν (x.froz f) v d := h.mono (le_froz x f)
    cases d <;> simp only [purC] <;> first
      | exact ⟨hm, ho, fun h1 h2 => by simp_all [D.cells, D.isAgg]⟩
      | skip
    cases h
    exact ⟨.sl none 0 0 0 0 0 [] (fun _ _ => undef) rfl (.inl rfl) (Nat.le_refl _) (by simp [maxLen]) (fun _ h => by omega) (fun _ h => by omega) (fun _ _ h => by omega) (fun _ _ h => by omega) (fun _ _ h => by omega), rfl, fun _ _ => rfl⟩
  | .sl k cs, v, d, h, ho => by
    have hm : RD ν (x.froz f) v d := h.mono (le_froz x f)
    cases d <;> simp only [purC] <;> simp only [purCO] at ho <;> first
      | exact ⟨hm, ho, fun h1 h2 => by simp_all [D.cells, D.isAgg]⟩
      | skip
    · cases h
      exact ⟨.sl none 0 0 0 0 k [] (fun _ _ => undef) rfl (.inl rfl) (Nat.le_refl _) (by simp [maxLen]) (fun _ h => by simp at h) (fun _ h => by simp at h) (fun _ _ h => by simp at h) (fun _ _ h => by simp at h) (fun _ _ h => by simp at h), rfl, fun _ _ => rfl⟩
    · rename_i l k' i c
      obtain ⟨hb, hel⟩ := ho
      cases h with
      | own0 =>
        simp only [List.take_zero, List.map_nil]
        exact ⟨.sl none 0 0 0 0 k' [] (fun _ _ => undef) rfl (.inl rfl) (Nat.le_refl _) (by simp [maxLen]) (fun _ h => by simp at h) (fun _ h => by simp at h) (fun _ _ h => by simp at h) (fun _ _ h => by simp at h) (fun _ _ h => by simp at h), rfl, fun _ _ => rfl⟩
      | own _ _ _ _ b base tot cap a hβ ha hcap hmx ht =>
        obtain ⟨g1, g2, hnI, hk0, ht', cc, T, fr, q1, q2, q3, q4⟩ := buf_full hs hag hb hβ
        have hlen : (((bufEls m l).drop i).take c).length = c := length_take_drop _ _ _ g2
        have hgt : ∀ j, j < c → (((bufEls m l).drop i).take c).getD j .any = (bufEls m l).getD (i + j) .any := fun j hj => rangeD_take_drop _ _ _ _ _ hj
        have hrow := row_pure (f := f) (k := k') (cs := cs) (es := ((bufEls m l).drop i).take c) (g := fun i' j => cc.getD (base + (i + i') * k' + j) undef) hk0 (purE_sound hs hag cs)
          (fun i' hi' => by
            rw [hlen] at hi'
            rw [hgt i' hi']
            exact ⟨(q4 (i + i') (by omega)).1, fun j hj => ((q4 (i + i') (by omega)).2 j hj).2⟩) hel
        refine ⟨.sl (some a) b (base + i * k') c cap k' _ (fun i' j => cc.getD (base + (i + i') * k' + j) undef) (by rw [List.length_map, hlen]) ?_ hcap hmx (fun i' hi' => (hrow i' (by omega)).1) (fun i' hi' => (hrow i' (by omega)).2.1) (fun i' j hi' hj => ?_) (fun i' j hi' hj => ?_) (fun i' j hi' hj => (hrow i' (by omega)).2.2 j hj), rfl, fun _ _ => rfl⟩
        · by_cases hc0 : c = 0
          · left
            exact List.eq_nil_of_length_eq_zero (by simp [hlen, hc0])
          · right
            exact ⟨by rw [ha (by omega)], .inr ⟨l, _, hβ, rfl, by rw [g1]; simp⟩⟩
        · have h1 := idx_lt (tot := tot) (show i + i' < tot by omega) hj
          show x.w.cell? _ = _
          rw [← cell_of_heap q1 (by omega : base + (i + i') * k' + j < cc.size)]
          congr 2; rw [Nat.add_mul]; omega
        · exact ((q4 (i + i') (by omega)).2 j hj).1
  | .pt cs, v, d, h, ho => by
    have hm : RD ν (x.froz f) v d := h.mono (le_froz x f)
    cases d <;> simp only [purC] <;> simp only [purCO] at ho <;> first
      | exact ⟨hm, ho, fun h1 h2 => by simp_all [D.cells, D.isAgg]⟩
      | skip
    rename_i l k' i o
    obtain ⟨hb, hel⟩ := ho
    cases h with
    | ptr _ _ _ _ b base tot at_ hβ hat =>
      obtain ⟨g1, g2, hnI, hk0, ht', cc, T, fr, q1, q2, q3, q4⟩ := buf_full hs hag hb hβ
      have hrow := row_pure (f := f) (k := k') (cs := cs) (es := bufEls m l) (g := fun i' j => cc.getD (base + i' * k' + j) undef) hk0 (purE_sound hs hag cs)
        (fun i' hi' => ⟨(q4 i' hi').1, fun j hj => ((q4 i' hi').2 j hj).2⟩) hel
      refine ⟨.ref b base k' i o at_ _ (fun i' j => cc.getD (base + i' * k' + j) undef) (.inr ⟨l, _, hβ, rfl, by rw [g1]; simp⟩) hat (fun i' hi' => (hrow i' (by simpa using hi')).1) (fun i' hi' => (hrow i' (by simpa using hi')).2.1)
        (fun i' j hi' hj => ?_) (fun i' j hi' hj => ((q4 i' (by simpa using hi')).2 j hj).1) (fun i' j hi' hj => (hrow i' (by simpa using hi')).2.2 j hj), rfl, fun _ _ => rfl⟩
      have h1 := idx_lt (tot := tot) (show i' < tot by simp at hi'; omega) hj
      exact cell_of_heap q1 (by omega)
theorem purE_sound (hs : Sim ν x f) (hag : ∀ l, look m l ≠ none → f l = look m l) : ∀ (cs : List Sh) {k : Nat} (e : D) (c : Nat → Value), e.cells.length = k → (∀ j, j < k → RD ν x (c j) (e.cells.getD j .any)) → purVO m cs e →
    (purV m cs e).cells.length = k ∧ (purV m cs e).noLoc = true ∧ ∀ j, j < k → RD ν (x.froz f) (c j) ((purV m cs e).cells.getD j .any)
  | [], k, e, c, hk, hc, ho => by
    simp only [purV]
    simp only [purVO] at ho
    exact ⟨hk, ho, fun j hj => (hc j hj).mono (le_froz x f)⟩
  | s :: r, k, e, c, hk, hc, ho => by
    cases e <;> simp only [purV] <;> simp only [purVO] at ho <;> try
      (obtain ⟨h1, h2, h3⟩ := purC_sound hs hag s (c 0) _ (by simp only [D.cells, List.length_cons, List.length_nil] at hk; exact hc 0 (by omega)) ho
       simp only [D.cells, List.length_cons, List.length_nil] at hk
       rw [h3 rfl rfl]
       subst hk
       exact ⟨rfl, h2, fun j hj => by obtain rfl : j = 0 := by omega
                                      exact h1⟩)
    · simp only [D.cells, List.length_nil] at hk
      subst hk
      cases s <;> simp only [purC] <;> exact ⟨rfl, rfl, fun j hj => by omega⟩
    · rename_i ds
      obtain ⟨a1, a2, a3⟩ := purL_sound hs hag (s :: r) ds c (fun j hj => hc j (by simpa [D.cells] using hk ▸ hj)) ho
      simp only [D.cells] at hk ⊢
      exact ⟨a1.trans hk, by rw [D.noLoc_agg]; exact a2, fun j hj => a3 j (by omega)⟩
    · simp only [D.cells, List.length_nil] at hk
      subst hk
      cases s <;> simp only [purC, purCO] at ho ⊢ <;> exact ⟨rfl, ho, fun j hj => by omega⟩
theorem purL_sound (hs : Sim ν x f) (hag : ∀ l, look m l ≠ none → f l = look m l) : ∀ (cs : List Sh) (ds : List D) (c : Nat → Value), (∀ j, j < ds.length → RD ν x (c j) (ds.getD j .any)) → purLO m cs ds →
    (purL m cs ds).length = ds.length ∧ noLocs (purL m cs ds) = true ∧ ∀ j, j < ds.length → RD ν (x.froz f) (c j) ((purL m cs ds).getD j .any)
  | [], ds, c, hc, ho => by
    simp only [purLO] at ho
    exact ⟨by simp [purL], by simpa [purL] using ho, fun j hj => by simpa only [purL] using (hc j hj).mono (le_froz x f)⟩
  | s :: r, [], c, hc, ho => by
    exact ⟨by simp [purL], by simp [purL, noLocs], fun j hj => by simp at hj⟩
  | s :: r, d :: ds, c, hc, ho => by
    simp only [purL]
    simp only [purLO] at ho
    obtain ⟨h1, h2, _⟩ := purC_sound hs hag s (c 0) d (by simpa using hc 0 (by simp)) ho.1
    obtain ⟨a1, a2, a3⟩ := purL_sound hs hag r ds (fun j => c (j + 1)) (fun j hj => by simpa using hc (j + 1) (by simp; omega)) ho.2
    refine ⟨by simp [a1], by simp [noLocs, h2, a2], fun j hj => ?_⟩
    cases j with
    | zero => simpa using h1
    | succ j => simpa using a3 j (by simpa using hj)
end
theorem purV_sound (hs : Sim ν x f) (hag : ∀ l, look m l ≠ none → f l = look m l) (sh : List Sh) (v : Value) (d : D) (h : RD ν x v d) (ho : purVO m sh d) : RD ν (x.froz f) v (purV m sh d) ∧ (purV m sh d).noLoc = true := by
  cases sh with
  | nil => simp only [purV]; simp only [purVO] at ho; exact ⟨h.mono (le_froz x f), ho⟩
  | cons s r =>
    cases d <;> simp only [purV] <;> simp only [purVO] at ho <;> first
      | (obtain ⟨h1, h2, _⟩ := purC_sound hs hag s v _ h ho; exact ⟨h1, h2⟩)
      | skip
    rename_i ds
    cases h with
    | agg cs _ hl h1 h =>
      obtain ⟨a1, a2, a3⟩ := purL_sound hs hag (s :: r) ds (fun j => cs.getD j undef) h ho
      exact ⟨.agg cs _ (by rw [a1, hl]) (fun i hi => h1 i (by omega)) (fun i hi => a3 i (by omega)), by rw [D.noLoc_agg]; exact a2⟩
theorem purs_sound (hs : Sim ν x f) (hag : ∀ l, look m l ≠ none → f l = look m l) : ∀ (ss : List (List Sh)) (ds : List D) (c : Nat → Value), (∀ j, j < ds.length → RD ν x (c j) (ds.getD j .any)) → pursO m ss ds →
    (purs m ss ds).length = ds.length ∧ noLocs (purs m ss ds) = true ∧ ∀ j, j < ds.length → RD ν (x.froz f) (c j) ((purs m ss ds).getD j .any)
  | ss, [], c, hc, ho => ⟨by simp [purs], by simp [purs, noLocs], fun j hj => by simp at hj⟩
  | [], d :: r, c, hc, ho => by
    simp only [pursO] at ho
    obtain ⟨h1, h2⟩ := purV_sound hs hag [.a] (c 0) d (by simpa using hc 0 (by simp)) ho.1
    obtain ⟨a1, a2, a3⟩ := purs_sound hs hag [] r (fun j => c (j + 1)) (fun j hj => by simpa using hc (j + 1) (by simp; omega)) ho.2
    refine ⟨by simp [purs, a1], by simp [purs, noLocs, h2, a2], fun j hj => ?_⟩
    cases j with
    | zero => simpa [purs] using h1
    | succ j => simpa [purs] using a3 j (by simpa using hj)
  | s :: ss, d :: r, c, hc, ho => by
    simp only [pursO] at ho
    obtain ⟨h1, h2⟩ := purV_sound hs hag s (c 0) d (by simpa using hc 0 (by simp)) ho.1
    obtain ⟨a1, a2, a3⟩ := purs_sound hs hag ss r (fun j => c (j + 1)) (fun j hj => by simpa using hc (j + 1) (by simp; omega)) ho.2
    refine ⟨by simp [purs, a1], by simp [purs, noLocs, h2, a2], fun j hj => ?_⟩
    cases j with
    | zero => simpa [purs] using h1
    | succ j => simpa [purs] using a3 j (by simpa using hj)
end
end Go.Abs
end
section
namespace Go.Abs
variable [Glob]
/-- an operation comes to a value and a world, by itself or through a call -/
def Does (P : Program) (x : X) (G : Value → X → Prop) (r : Result Next) : Prop :=
  (∃ v x', (r = .ok (.value v) x'.w ∨ r = .ok .skip x'.w ∧ v = undef) ∧ G v x') ∨
  (∃ f args, r = .ok (.enter f args) x.w ∧ Calls P f args x.w fun
    | .returned v, w' => ∃ x', x'.w = w' ∧ G v x'
    | _, _ => False)
theorem Does.mono {P : Program} {x : X} {G G' : Value → X → Prop} {r : Result Next} (h : Does P x G r) (hg : ∀ v x', G v x' → G' v x') : Does P x G' r := by
  rcases h with ⟨v, x', h1, h2⟩ | ⟨f, args, h1, h2⟩
  · exact .inl ⟨v, x', h1, hg _ _ h2⟩
  · refine .inr ⟨f, args, h1, Calls.mono h2 fun e w' he => ?_⟩
    cases e with
    | returned v => obtain ⟨x', e1, e2⟩ := he; exact ⟨x', e1, hg _ _ e2⟩
    | panicked c => exact he
    | outgrown => exact he
theorem Does.wp {P : Program} {x : X} {G : Value → X → Prop} {o : Oper} {a : Act} {next : Act → World → Prop} {Q : Exit → Act → World → Prop}
    (h : Does P x G ((execOp a.eval o).run P x.w)) (hn : ∀ v x', G v x' → next (a.put o.dst v) x'.w) : o.wp P a x.w next Q := by
  unfold Oper.wp
  rcases h with ⟨v, x', h1 | ⟨h1, h3⟩, h2⟩ | ⟨f, args, h1, h2⟩
  · rw [h1]; exact hn v x' h2
  · rw [h1]; subst h3; exact hn _ x' h2
  · rw [h1, Oper.upon_enter]
    refine Calls.mono h2 fun e w' he => ?_
    cases e with
    | returned v => obtain ⟨x', e1, e2⟩ := he; subst e1; exact hn v x' e2
    | panicked c => exact he.elim
    | outgrown => exact he.elim
/-- a step of a call that only computes: what was there stays -/
structure PStep (x x' : X) : Prop where
  grow : Grow x.w x'.w
  I : ∀ b, x.I b → x'.I b
  newI : ∀ b, x'.I b → x.I b ∨ x.w.heap.size ≤ b
  imm : ∀ b, x'.I b → b < x'.w.heap.size
  β : x'.β = x.β
/-- no name is used that is yet to come -/
structure Fresh (st : St) (x : X) : Prop where
  β : ∀ l, st.nx ≤ l → x.β l = none
  m : ∀ l, look st.m l ≠ none → l < st.nx
structure Ok (P : Program) (ν : List (Nat × Nat)) (eff : List Nat) (Γ : Ctx) : Prop where
  pure : ∀ fid n, assoc? ν fid = some n → ∀ (x : X) (args : Array Value) (ds : List D), args.size = ds.length → (∀ i, i < ds.length → RD ν x (args.getD i undef) (ds.getD i .any)) → noLocs ds = true →
    (∀ b, x.I b → b < x.w.heap.size) → Glob.gd x → Γ.pre n ds → Does P x (fun v x' => PStep x x' ∧ RD ν x' v (Γ.val n ds)) ((callFunc fid args).run P x.w)
  effF : ∀ fid n, assoc? ν fid = some n → eff.contains (2 * n + 1) = true → ∀ (x : X) (f : Nat → Option Blk) (args : Array Value) (l k : Nat) (d : D) (ds : List D), args.size = ds.length + 1 → RD ν x (args.getD 0 undef) (.ptr l k 0 0) →
    (∀ i, i < ds.length → RD ν x (args.getD (i + 1) undef) (ds.getD i .any)) → Sim ν x f → f l = some (.buf k [d]) → d.noLoc = true → noLocs ds = true → Γ.fp n d ds →
    Does P x (fun v x' => Step x x' ∧ RD ν x' v (Γ.fv n d ds) ∧ Sim ν x' (fun l' => if l' = l then some (.buf k [Γ.fs n d ds]) else f l') ∧ x'.β = x.β) ((callFunc fid args).run P x.w)
  eff : ∀ fid n, assoc? ν fid = some n → eff.contains (2 * n) = true → ∀ (x : X) (args : Array Value) (ds : List D) (st : St) (K : D → St → Prop), args.size = ds.length → (∀ i, i < ds.length → RD ν x (args.getD i undef) (ds.getD i .any)) →
    Sim ν x (look st.m) → Fresh st x → Γ.tr n ds st K → Does P x (fun v x' => ∃ d st', K d st' ∧ Step x x' ∧ RD ν x' v d ∧ Sim ν x' (look st'.m) ∧ Fresh st' x') ((callFunc fid args).run P x.w)
section
variable {x : X} {f : Nat → Option Blk} {C : CC} {defs : List (Option Nat)} {ρ : Src → Ent} {ev : Operand → Value} {Γ : Ctx} {m : List (Nat × Blk)} {L : Nat} {ν : List (Nat × Nat)}
theorem PStep.step {x' : X} (h : PStep x x') (himm : ∀ b, x.I b → b < x.w.heap.size) : Step x x' :=
  ⟨h.grow.os, h.grow.tape, h.grow.output, h.grow.size, h.I, fun b hb => h.grow.old b (himm b hb), fun l p hp => by rw [h.β]; exact hp, fun b hb _ => h.grow.old b hb, fun b hb => (h.newI b hb).imp id .inl, fun l p hp => .inl (by rw [h.β] at hp; exact hp)⟩
theorem PStep.sim {x' : X} (h : PStep x x') (hs : Sim ν x f) : Sim ν x' f := by
  have hst := h.step hs.imm
  refine ⟨fun l blk b base tot e1 e2 => ?_, fun l1 l2 b base tot base' tot' e1 e2 e3 e4 => ?_, h.imm, fun l b base tot e => ?_, gd_le hst.le hs.gd⟩
  · rw [h.β] at e2
    obtain ⟨a1, a2⟩ := hs.own l blk b base tot e1 e2
    have hb := hs.bnd l b base tot e2
    refine ⟨fun hI => ?_, a2.mono hst.le (h.grow.old b hb)⟩
    rcases h.newI b hI with h1 | h1
    · exact a1 h1
    · omega
  · rw [h.β] at e3 e4
    exact hs.inj l1 l2 b base tot base' tot' e1 e2 e3 e4
  · rw [h.β] at e
    exact Nat.lt_of_lt_of_le (hs.bnd l b base tot e) h.grow.size
mutual
theorem purC_m (m m' : List (Nat × Blk)) : ∀ (s : Sh) (d : D), d.noLoc = true → purC m s d = purC m' s d ∧ purCO m s d
  | .a, d, h => by cases d <;> simp_all [purC, purCO, D.noLoc]
  | .sl k cs, d, h => by cases d <;> simp_all [purC, purCO, D.noLoc]
  | .pt cs, d, h => by cases d <;> simp_all [purC, purCO, D.noLoc]
theorem purL_m (m m' : List (Nat × Blk)) : ∀ (ss : List Sh) (ds : List D), noLocs ds = true → purL m ss ds = purL m' ss ds ∧ purLO m ss ds
  | [], ds, h => by simp [purL, purLO, h]
  | s :: r, [], h => by simp [purL, purLO]
  | s :: r, d :: ds, h => by
    simp only [noLocs, Bool.and_eq_true] at h
    obtain ⟨a1, a2⟩ := purC_m m m' s d h.1
    obtain ⟨b1, b2⟩ := purL_m m m' r ds h.2
    simp only [purL, purLO, a1, b1]
    exact ⟨trivial, a2, b2⟩
end
theorem purV_m (m m' : List (Nat × Blk)) (ss : List Sh) (d : D) (h : d.noLoc = true) : purV m ss d = purV m' ss d ∧ purVO m ss d := by
  cases ss with
  | nil => simp [purV, purVO, h]
  | cons s r =>
    cases d <;> simp only [purV, purVO] <;> first
      | exact purC_m m m' s _ h
      | skip
    obtain ⟨a1, a2⟩ := purL_m m m' (s :: r) _ (by rwa [D.noLoc_agg] at h)
    exact ⟨by rw [a1], a2⟩
theorem purs_m (m m' : List (Nat × Blk)) : ∀ (ss : List (List Sh)) (ds : List D), noLocs ds = true → purs m ss ds = purs m' ss ds ∧ pursO m ss ds
  | ss, [], h => by simp [purs, pursO]
  | [], d :: r, h => by
    simp only [noLocs, Bool.and_eq_true] at h
    obtain ⟨a1, a2⟩ := purV_m m m' [.a] d h.1
    obtain ⟨b1, b2⟩ := purs_m m m' [] r h.2
    simp only [purs, pursO, a1, b1]
    exact ⟨trivial, a2, b2⟩
  | s :: ss, d :: r, h => by
    simp only [noLocs, Bool.and_eq_true] at h
    obtain ⟨a1, a2⟩ := purV_m m m' s d h.1
    obtain ⟨b1, b2⟩ := purs_m m m' ss r h.2
    simp only [purs, pursO, a1, b1]
    exact ⟨trivial, a2, b2⟩
def Goal (ν : List (Nat × Nat)) (x : X) (f : Nat → Option Blk) (L : Nat) (d : D) (v : Value) (x' : X) : Prop := Step x x' ∧ RD ν x' v d ∧ Sim ν x' f ∧ ∀ l, l ≠ L → x'.β l = x.β l
theorem Did.does {P : Program} {f' : Nat → Option Blk} {d : D} {r : Result Next} (h : Did ν x f' L d r) : Does P x (Goal ν x f' L d) r := by
  obtain ⟨v, x', h1, h2, h3, h4, h5⟩ := h
  exact .inl ⟨v, x', h1, h2, h3, h4, h5⟩
/-- a call that only computes -/
theorem call_pure {P : Program} {eff : List Nat} (hΓ : Ok P ν eff Γ) {fid n : Nat} (hn : assoc? ν fid = some n) {args : Array Value} {ds : List D} {sh : List (List Sh)} (hl : args.size = ds.length)
    (hargs : ∀ i, i < ds.length → RD ν x (args.getD i undef) (ds.getD i .any)) (hs : Sim ν x f) (hag : noLocs ds = false → ∀ l, look m l ≠ none → f l = look m l) (ho : pursO m sh ds) (hpre : Γ.pre n (purs m sh ds))
    (hok : callOK ds (Γ.val n (purs m sh ds)) = true) : Does P x (Goal ν x f L (Γ.val n (purs m sh ds))) ((callFunc fid args).run P x.w) := by
  cases hnl : noLocs ds with
  | true =>
    obtain ⟨e1, _⟩ := purs_m m [] sh ds hnl
    obtain ⟨_, e2⟩ := purs_m [] m sh ds hnl
    have hs0 : Sim ν x (fun _ => none) := hs.less fun _ => .inr (.inl rfl)
    obtain ⟨a1, a2, a3⟩ := purs_sound (m := []) hs0 (fun l h => by simp [look] at h) sh ds (fun j => args.getD j undef) hargs e2
    rw [← e1] at a1 a2 a3
    have hle : Le (x.froz fun _ => none) x := ⟨fun b hb => by
      rcases hb with h | ⟨_, _, _, _, h⟩
      · exact h
      · exact absurd rfl h, fun _ _ => rfl, fun _ _ h => h⟩
    refine (hΓ.pure fid n hn x args _ (by rw [a1, hl]) (fun i hi => (a3 i (by omega)).mono hle) a2 hs.imm hs.gd hpre).mono fun v x' h => ?_
    obtain ⟨h1, h2⟩ := h
    exact ⟨h1.step hs.imm, h2, h1.sim hs, fun l _ => by rw [h1.β]⟩
  | false =>
    obtain ⟨a1, a2, a3⟩ := purs_sound hs (hag hnl) sh ds (fun j => args.getD j undef) hargs ho
    have hmf : (Γ.val n (purs m sh ds)).memFree = true := by simpa [callOK, hnl] using hok
    have himm : ∀ b, (x.froz f).I b → b < x.w.heap.size := by
      intro b hb
      rcases hb with h | ⟨l, ⟨b', base, tot⟩, h1, h2, h3⟩
      · exact hs.imm b h
      · subst h2; exact hs.bnd l _ _ _ h1
    have h := hΓ.pure fid n hn (x.froz f) args _ (by rw [a1, hl]) (fun i hi => a3 i (by omega)) a2 himm (gd_le (le_froz x f) hs.gd) hpre
    have key : ∀ v x', (PStep (x.froz f) x' ∧ RD ν x' v (Γ.val n (purs m sh ds))) → Goal ν x f L (Γ.val n (purs m sh ds)) v ⟨x'.w, x.I, x.β⟩ := by
      intro v x' ⟨h1, h2⟩
      have hp : PStep x ⟨x'.w, x.I, x.β⟩ := ⟨h1.grow, fun _ h => h, fun _ h => .inl h, fun b hb => Nat.lt_of_lt_of_le (hs.imm b hb) h1.grow.size, rfl⟩
      exact ⟨hp.step hs.imm, h2.memFree hmf, hp.sim hs, fun _ _ => rfl⟩
    rcases h with ⟨v, x', h1, h2⟩ | ⟨f', args', h1, h2⟩
    · exact .inl ⟨v, ⟨x'.w, x.I, x.β⟩, h1, key v x' h2⟩
    · refine .inr ⟨f', args', h1, Calls.mono h2 fun e w' he => ?_⟩
      cases e with
      | returned v => obtain ⟨x', e1, e2⟩ := he; exact ⟨⟨x'.w, x.I, x.β⟩, e1, key v x' e2⟩
      | panicked c => exact he
      | outgrown => exact he
end
end Go.Abs
end
section
namespace Go.Abs
variable [Glob]
section
variable {x : X} {f : Nat → Option Blk} {C : CC} {defs : List (Option Nat)} {ρ : Src → Ent} {ev : Operand → Value} {Γ : Ctx} {m : List (Nat × Blk)} {L : Nat} {ν : List (Nat × Nat)}
theorem aft_nil {f : Nat → Option Blk} {m' : List (Nat × Blk)} : aft f [] m' = f := by funext l; simp [aft]
theorem pure_wr {i : Ins} (hp : i.pure = true) : i.wr ρ L = [] := by cases i <;> simp_all [Ins.pure, Ins.wr]
theorem tch_all {args : List D} {ls : Option (List Nat)} (hls : ls = bif noLocs args then some [] else none) (hag : agr f m ls) : noLocs args = false → ∀ l, look m l ≠ none → f l = look m l := by
  intro h
  rw [h] at hls
  subst hls
  exact hag
theorem op_callf {o : Oper} {fid : Nat} {args : Array Operand} {tys : Array TypeId} {n : Nat} {ss : List Src} {sh : List (List Sh)} (hcst : ∀ d, ρ (.c d) = ⟨true, d⟩) (hΓ : Ok C.P C.ν C.eff Γ)
    (ho : o.op = .call { callee := .value (.func fid), args, argTypes := tys }) (h1 : assoc? C.ν fid = some n) (h2 : C.srcs defs args.toList = some ss) (hρ : Rho C defs ρ ev x o.op.operands.toList) (hob : (Ins.call n ss sh).obl Γ ρ m) (hs : Sim C.ν x f) (hag : agr f m ((Ins.call n ss sh).tch ρ)) :
    Does C.P x (Goal C.ν x (aft f ((Ins.call n ss sh).wr ρ L) ((Ins.call n ss sh).eff Γ ρ m L)) L ((Ins.call n ss sh).val Γ ρ m L)) ((execOp ev o).run C.P x.w) := by
  obtain ⟨k1, k2, k3, k4⟩ := hob
  have hv := hρ (.func fid) (by simp [ho, Op.operands, Call.operands]) (.c (.fn n [])) (by simp [CC.src, h1]) (by rw [hcst])
  rw [hcst] at hv
  obtain ⟨s1, s2, s3⟩ := srcs_sound hρ _ _ (fun o' ho' => by simp only [ho, Op.operands, Call.operands]; simp at ho' ⊢; exact .inr ho') h2 k1
  generalize hep : ev (.func fid) = vf at hv
  cases hv with
  | fn fid' _ cs _ hν hl _ =>
    have hcs : cs = #[] := by apply Array.ext'; simpa using hl
    subst hcs
    have hrun : (execOp ev o).run C.P x.w = (callFunc fid' (args.map ev)).run C.P x.w := by
      simp [execOp, ho, resolve, Deferred.ofValue, invoke, hep]
    rw [hrun]
    have hwr : (Ins.call n ss sh).wr ρ L = [] := rfl
    rw [hwr, aft_nil]
    simp only [Ins.val]
    refine call_pure hΓ hν (by simp; simpa using s2.symm) (fun i hi => ?_) hs (tch_all rfl hag) k2 k3 k4
    have := s3 i hi
    rwa [← Array.toList_map, toList_getD] at this
theorem getD_app_arr (a b : Array Value) (i : Nat) : (a ++ b).getD i undef = if i < a.size then a.getD i undef else b.getD (i - a.size) undef := by
  rw [← toList_getD, Array.toList_append, getD_append]
  simp only [Array.length_toList, toList_getD]
theorem op_callt {o : Oper} {t : Nat} {args : Array Operand} {tys : Array TypeId} {s : Src} {ss : List Src} {sh : List (List Sh)} (hΓ : Ok C.P C.ν C.eff Γ)
    (ho : o.op = .call { callee := .value (.tmp t), args, argTypes := tys }) (h1 : C.src defs (.tmp t) = some s) (h2 : C.srcs defs args.toList = some ss) (hρ : Rho C defs ρ ev x o.op.operands.toList) (hob : (Ins.callv s ss sh).obl Γ ρ m) (hs : Sim C.ν x f) (hag : agr f m ((Ins.callv s ss sh).tch ρ)) :
    Does C.P x (Goal C.ν x (aft f ((Ins.callv s ss sh).wr ρ L) ((Ins.callv s ss sh).eff Γ ρ m L)) L ((Ins.callv s ss sh).val Γ ρ m L)) ((execOp ev o).run C.P x.w) := by
  obtain ⟨k0, k1, k2⟩ := hob
  have hv := hρ (.tmp t) (by simp [ho, Op.operands, Call.operands]) s h1 k0
  obtain ⟨s1, s2, s3⟩ := srcs_sound hρ _ _ (fun o' ho' => by simp only [ho, Op.operands, Call.operands]; simp at ho' ⊢; exact .inr ho') h2 k1
  cases hd : (ρ s).d <;> simp only [hd] at k2
  rename_i n caps
  obtain ⟨k2, k3, k4⟩ := k2
  rw [hd] at hv
  generalize hep : ev (.tmp t) = vf at hv
  cases hv with
  | fn fid' _ cs _ hν hl hcs =>
    have hrun : (execOp ev o).run C.P x.w = (callFunc fid' (args.map ev ++ cs)).run C.P x.w := by
      simp [execOp, ho, resolve, Deferred.ofValue, invoke, hep]
    rw [hrun]
    have hwr : (Ins.callv s ss sh).wr ρ L = [] := rfl
    rw [hwr, aft_nil]
    have hval : (Ins.callv s ss sh).val Γ ρ m L = Γ.val n (purs m sh (dds ρ ss ++ caps)) := by simp [Ins.val, hd]
    rw [hval]
    have hsz : args.size = (dds ρ ss).length := by simpa using s2.symm
    refine call_pure hΓ hν (by simp [hl, hsz]) (fun i hi => ?_) hs (tch_all (by simp [Ins.tch, hd]) hag) k2 k3 k4
    rw [getD_app_arr, getD_append]
    simp only [Array.size_map, hsz]
    split
    · rename_i hlt
      have := s3 i hlt
      rwa [← Array.toList_map, toList_getD] at this
    · exact hcs _ (by simp at hi; omega)
theorem op_callFn {o : Oper} {fid : Nat} {args : Array Operand} {tys : Array TypeId} {n : Nat} {r : Src} {ss : List Src} {sh : List (List Sh)} (hcst : ∀ d, ρ (.c d) = ⟨true, d⟩) (hΓ : Ok C.P C.ν C.eff Γ) (hef : C.eff.contains (2 * n + 1) = true)
    (ho : o.op = .call { callee := .value (.func fid), args, argTypes := tys }) (h1 : assoc? C.ν fid = some n) (h2 : C.srcs defs args.toList = some (r :: ss)) (hρ : Rho C defs ρ ev x o.op.operands.toList) (hob : (Ins.callF n r ss sh).obl Γ ρ m) (hs : Sim C.ν x f)
    (hag : agr f m ((Ins.callF n r ss sh).tch ρ)) :
    Does C.P x (Goal C.ν x (aft f ((Ins.callF n r ss sh).wr ρ L) ((Ins.callF n r ss sh).eff Γ ρ m L)) L ((Ins.callF n r ss sh).val Γ ρ m L)) ((execOp ev o).run C.P x.w) := by
  obtain ⟨k0, k1, k2, k3⟩ := hob
  have hv := hρ (.func fid) (by simp [ho, Op.operands, Call.operands]) (.c (.fn n [])) (by simp [CC.src, h1]) (by rw [hcst])
  rw [hcst] at hv
  obtain ⟨s1, s2, s3⟩ := srcs_sound hρ _ _ (fun o' ho' => by simp only [ho, Op.operands, Call.operands]; simp at ho' ⊢; exact .inr ho') h2 ⟨k0, k1⟩
  cases hd : (ρ r).d <;> simp only [hd] at k3
  rename_i l k i o'
  obtain ⟨rfl, rfl, k4, k5, k6, k7⟩ := k3
  generalize hep : ev (.func fid) = vf at hv
  cases hv with
  | fn fid' _ cs _ hν hl _ =>
    have hcs : cs = #[] := by apply Array.ext'; simpa using hl
    subst hcs
    have hrun : (execOp ev o).run C.P x.w = (callFunc fid' (args.map ev)).run C.P x.w := by
      simp [execOp, ho, resolve, Deferred.ofValue, invoke, hep]
    rw [hrun]
    have hlk : f l = look m l := hag l (by simp [hd, locOf])
    obtain ⟨g1, g2, g3⟩ := buf_el hs hlk k4
    have hb1 : bufEls m l = [(bufEls m l).getD 0 .any] := by
      match he : bufEls m l, k5 with
      | [e], _ => rfl
    have hsz : args.size = ss.length + 1 := by simpa using s1
    have hdl : (dds ρ ss).length = ss.length := by
      have := s2; simp only [dds, List.length_cons] at this; have h4 := s1; simp only [List.length_cons] at h4; omega
    obtain ⟨p1, p2⟩ := purs_m [] [] sh (dds ρ ss) k2
    have hs0 : Sim C.ν x (fun _ => none) := hs.less fun _ => .inr (.inl rfl)
    have hget : ∀ q, (args.map ev).getD q undef = (args.toList.map ev).getD q undef := fun q => by rw [← Array.toList_map, toList_getD]
    obtain ⟨a1, a2, a3⟩ := purs_sound (m := []) hs0 (fun l h => by simp [look] at h) sh (dds ρ ss) (fun j => (args.map ev).getD (j + 1) undef) (fun j hj => by
      have := s3 (j + 1) (by simp only [dds, List.length_cons]; omega)
      rw [hget]; simpa [dds] using this) p2
    have hle : Le (x.froz fun _ => none) x := ⟨fun b hb => by
      rcases hb with h | ⟨_, _, _, _, h⟩
      · exact h
      · exact absurd rfl h, fun _ _ => rfl, fun _ _ h => h⟩
    have h0 : RD C.ν x ((args.map ev).getD 0 undef) (.ptr l k 0 0) := by
      have := s3 0 (by simp [dds])
      rw [hget]; simpa [dds, hd] using this
    rw [hb1] at g1
    refine (hΓ.effF fid' n hν hef x f _ l k _ (purs [] sh (dds ρ ss)) (by simp [a1, hdl, hsz]) h0 (fun i hi => (a3 i (by omega)).mono hle) hs g1 k6 a2 k7).mono fun v x' h => ?_
    obtain ⟨q1, q2, q3, q4⟩ := h
    refine ⟨q1, by simpa only [Ins.val, hd] using q2, q3.less fun l' => .inl ?_, fun l' _ => by rw [q4]⟩
    simp only [aft, Ins.wr, hd, locOf, Ins.eff, List.mem_singleton, look_setL]
    by_cases e : l' = l
    · rw [if_pos e, if_pos e, if_pos e]
    · rw [if_neg e, if_neg e]
theorem op_any {o : Oper} {i : Ins} (hc : C.op defs o = some i) (hncm : i.isCallM = false) (hΓ : Ok C.P C.ν C.eff Γ) (hρ : Rho C defs ρ ev x o.op.operands.toList) (hcst : ∀ d, ρ (.c d) = ⟨true, d⟩) (hob : i.obl Γ ρ m) (hs : Sim C.ν x f) (hag : agr f m (i.tch ρ)) (hL : x.β L = none) :
    Does C.P x (Goal C.ν x (aft f (i.wr ρ L) (i.eff Γ ρ m L)) L (i.val Γ ρ m L)) ((execOp ev o).run C.P x.w) := by
  by_cases hp : i.pure = true
  · rw [pure_wr hp, aft_nil]
    exact (op_pure hc hp hρ hob hs).does
  · cases ho : o.op with
    | alloc t => exact (op_box hc (.inl ⟨t, ho⟩) hρ hcst hob hs hL).does
    | box t p => exact (op_box hc (.inr ⟨t, p, ho⟩) hρ hcst hob hs hL).does
    | buildSlice t n ps => exact (op_bsl hc ho hρ hob hs hL).does
    | load t p => exact (op_load hc ho hρ hob hs hag).does
    | store t p q => exact (op_store hc ho hρ hob hs hag).does
    | makeSlice t a b => exact (op_mks hc ho hρ hob hs hL).does
    | range t p => exact (op_range hc ho hρ hob hs hL).does
    | next it b =>
      cases b
      · simp [CC.op, ho] at hc
      · exact (op_next hc ho hρ hob hs hag).does
    | convert s d p =>
      have : (∃ a, i = .s2b a) ∨ (∃ a, i = .b2s a) := by
        simp only [CC.op, ho] at hc
        (repeat' split at hc) <;> simp only [Option.some.injEq, reduceCtorEq] at hc <;> subst hc <;> first
          | exact .inl ⟨_, rfl⟩
          | exact .inr ⟨_, rfl⟩
          | (exfalso; exact hp rfl)
      rcases this with ⟨a, rfl⟩ | ⟨a, rfl⟩
      · exact (op_s2b (i := .s2b a) hc ho hρ hob hs hL).does
      · exact (op_b2s hc ho hρ hob hs hag).does
    | call c =>
      obtain ⟨callee, args, argTypes⟩ := c
      cases callee with
      | builtin bu =>
        cases bu with
        | append =>
          have hx : ∃ p q t u, args = #[p, q] ∧ argTypes = #[t, u] := by
            simp only [CC.op, ho] at hc
            split at hc
            · rename_i p q t u hargs htys
              exact ⟨p, q, t, u, by apply Array.ext'; simpa using hargs, by apply Array.ext'; simpa using htys⟩
            · cases hc
          obtain ⟨p, q, t, u, rfl, rfl⟩ := hx
          exact (op_app hc ho hρ hob hs hag hL).does
        | len =>
          exfalso
          simp only [CC.op, ho] at hc
          (repeat' split at hc) <;> simp only [Option.some.injEq, reduceCtorEq] at hc <;> subst hc <;> exact hp rfl
        | _ => simp [CC.op, ho] at hc
      | value fv =>
        cases fv with
        | func fid =>
          have hc0 := hc
          simp only [CC.op, ho] at hc
          split at hc
          · rename_i n ss h1 h2
            split at hc
            · simp only [Option.some.injEq] at hc
              subst hc
              simp [Ins.isCallM] at hncm
            · split at hc
              · rename_i hef
                split at hc
                · rename_i r rest
                  simp only [Option.some.injEq] at hc
                  subst hc
                  exact op_callFn hcst hΓ hef ho h1 h2 hρ hob hs hag
                · cases hc
              · simp only [Option.some.injEq] at hc
                subst hc
                exact op_callf hcst hΓ ho h1 h2 hρ hob hs hag
          · cases hc
        | tmp t =>
          simp only [CC.op, ho] at hc
          split at hc
          · rename_i s ss h1 h2
            simp only [Option.some.injEq] at hc
            subst hc
            exact op_callt hΓ ho h1 h2 hρ hob hs hag
          · cases hc
        | _ => simp [CC.op, ho] at hc
      | invoke r n => simp [CC.op, ho] at hc
    | move p => exfalso; simp only [CC.op, ho, Option.map_eq_some_iff] at hc; obtain ⟨s, h1, rfl⟩ := hc; exact hp rfl
    | assign p => exfalso; simp only [CC.op, ho, Option.map_eq_some_iff] at hc; obtain ⟨s, h1, rfl⟩ := hc; exact hp rfl
    | nilCheck p => exfalso; simp only [CC.op, ho, Option.map_eq_some_iff] at hc; obtain ⟨s, h1, rfl⟩ := hc; exact hp rfl
    | unOp op t p => exfalso; simp only [CC.op, ho, Option.map_eq_some_iff] at hc; obtain ⟨s, h1, rfl⟩ := hc; exact hp rfl
    | extract p n => exfalso; simp only [CC.op, ho, Option.map_eq_some_iff] at hc; obtain ⟨s, h1, rfl⟩ := hc; exact hp rfl
    | makeFunc fn fst caps =>
      exfalso
      cases fn <;> simp only [CC.op, ho] at hc <;> try (cases hc; done)
      (repeat' split at hc) <;> (try simp only [Option.some.injEq, reduceCtorEq] at hc) <;> first
        | (subst hc; exact hp rfl)
        | exact hc.elim
    | _ =>
      exfalso
      simp only [CC.op, ho] at hc
      (try cases hc) <;> (repeat' split at hc) <;> (try simp only [Option.some.injEq, reduceCtorEq, Option.map_eq_some_iff] at hc) <;> first
        | (subst hc; exact hp rfl)
        | (obtain ⟨s, h1, rfl⟩ := hc; exact hp rfl)
        | exact hc.elim
        | cases hc
theorem fzL_len (l k : Nat) (es : List D) : ∀ ds : List D, (fzL l k es ds).length = ds.length
  | [] => rfl
  | d :: r => by simp [fzL, fzL_len l k es r]
theorem fzL_getD (l k : Nat) (es : List D) : ∀ (ds : List D) (i : Nat), (fzL l k es ds).getD i .any = fzD l k es (ds.getD i .any)
  | [], i => by simp [fzL, fzD]
  | d :: r, 0 => by simp [fzL]
  | d :: r, i + 1 => by simpa [fzL] using fzL_getD l k es r i
theorem RD.fz {ν : List (Nat × Nat)} {x x' : X} {l k : Nat} {es : List D} (hle : Le x x') (hn : noLocs es = true)
    (ho : ∀ b base tot, x.β l = some (b, base, tot) → x'.I b ∧ (∀ i, i < es.length → (es.getD i .any).cells.length = k) ∧ ∃ c : Nat → Nat → Value, ∀ i j, i < es.length → j < k →
      x'.w.cell? ⟨b, base + i * k + j, none⟩ = some (c i j) ∧ (c i j).oneCell' = true ∧ RD ν x' (c i j) ((es.getD i .any).cells.getD j .any)) {v : Value} {d : D} (h : RD ν x v d) : RD ν x' v (fzD l k es d) := by
  induction h with
  | any v => exact .any v
  | bool b => exact .bool b
  | int k n => exact .int k n
  | str s h => exact .str s h
  | agg cs ds hl' h1 _ ih => exact .agg cs _ (by rw [fzL_len]; exact hl') (fun i hi => h1 i (by rwa [fzL_len] at hi)) fun i hi => by rw [fzL_getD]; exact ih i (by rwa [fzL_len] at hi)
  | tup cs ds hl' _ ih => exact .tup cs _ (by rw [fzL_len]; exact hl') fun i hi => by rw [fzL_getD]; exact ih i (by rwa [fzL_len] at hi)
  | nils => exact .nils
  | sl a b off len cap k' es' c hlen ha hcap hm hk hn' hc h1 h _ => exact (RD.sl a b off len cap k' es' c hlen ha hcap hm hk hn' hc h1 h).mono hle
  | ref b off k' i o at_ es' c hI hat hk hn' hc h1 h _ => exact (RD.ref b off k' i o at_ es' c hI hat hk hn' hc h1 h).mono hle
  | ptr l' k' i o b base tot at_ hβ hat =>
    simp only [fzD]
    split
    · rename_i hh
      obtain ⟨rfl, rfl⟩ := hh
      obtain ⟨o1, o2, c, o3⟩ := ho b base tot hβ
      exact .ref b base k' i o at_ es c o1 hat o2 (fun i _ => noLocs_getD hn i) (fun i j hi hj => (o3 i j hi hj).1) (fun i j hi hj => (o3 i j hi hj).2.1) (fun i j hi hj => (o3 i j hi hj).2.2)
    · exact .ptr l' k' i o b base tot at_ (hle.β _ _ hβ) hat
  | own l' k' i n b base tot cap a hβ ha hcap hm ht =>
    simp only [fzD]
    split
    · rename_i hh
      obtain ⟨rfl, rfl, hin⟩ := hh
      obtain ⟨o1, o2, c, o3⟩ := ho b base tot hβ
      have hg : ∀ q, q < n → ((es.drop i).take n).getD q .any = es.getD (i + q) .any := fun q hq => by
        simp [List.getD, List.getElem?_take, hq]
      have hlen : ((es.drop i).take n).length = n := by simp; omega
      refine .sl (some a) b (base + i * k') n cap k' _ (fun q j => c (i + q) j) hlen.symm ?_ hcap hm (fun q hq => by rw [hg q hq]; exact o2 _ (by omega)) (fun q hq => by rw [hg q hq]; exact noLocs_getD hn _)
        (fun q j hq hj => ?_) (fun q j hq hj => (o3 (i + q) j (by omega) hj).2.1) (fun q j hq hj => by rw [hg q hq]; exact (o3 (i + q) j (by omega) hj).2.2)
      · by_cases hc0 : 0 < cap
        · right; rw [ha hc0]; exact ⟨rfl, o1⟩
        · left; apply List.eq_nil_of_length_eq_zero; omega
      · have := (o3 (i + q) j (by omega) hj).1
        rw [← this]; congr 2; rw [Nat.add_mul]; omega
    · exact .own l' k' i n b base tot cap a (hle.β _ _ hβ) ha hcap hm ht
  | own0 l' k' i =>
    simp only [fzD]
    split
    · rename_i hh
      simp only [List.take_zero]
      exact .sl none 0 0 0 0 k [] (fun _ _ => undef) rfl (.inl rfl) (Nat.le_refl _) (Nat.zero_le _) (fun i hi => by omega) (fun i hi => by omega) (fun i j hi => by omega) (fun i j hi => by omega) (fun i j hi => by omega)
    · exact .own0 l' k' i
  | nilp => exact .nilp
  | fn fid n cs ds hν hl' _ ih => exact .fn fid n cs _ hν (by rw [fzL_len]; exact hl') fun i hi => by rw [fzL_getD]; exact ih i (by rwa [fzL_len] at hi)
  | nilf => exact .nilf
  | it l b base tot hβ => exact .it l b base tot (hle.β _ _ hβ)
theorem fillI_len' {ρ : Src → Ent} : ∀ (ps : List (Nat × Src)) (l : List D), (fillI ρ l ps).length = l.length
  | [], l => rfl
  | (i, s) :: r, l => by simp only [fillI]; rw [fillI_len' r]; simp
theorem Does.re {P : Program} {x : X} {Q Q' : Value → X → Prop} {r : Result Next} (h : Does P x Q r) (hq : ∀ v x', Q v x' → ∃ x'', x''.w = x'.w ∧ Q' v x'') : Does P x Q' r := by
  rcases h with ⟨v, x', h1, h2⟩ | ⟨f', args', h1, h2⟩
  · obtain ⟨x'', e, h3⟩ := hq v x' h2
    exact .inl ⟨v, x'', by rw [e]; exact h1, h3⟩
  · refine .inr ⟨f', args', h1, Calls.mono h2 fun e w' he => ?_⟩
    cases e with
    | returned v =>
      obtain ⟨x', e1, e2⟩ := he
      obtain ⟨x'', e3, h3⟩ := hq v x' e2
      exact ⟨x'', by rw [e3]; exact e1, h3⟩
    | panicked c => exact he
    | outgrown => exact he
/-- what was just made, and is never written -/
theorem Goal.ice {x x' : X} {f : Nat → Option Blk} {L k n : Nat} {es : List D} {v : Value} (hg : Goal ν x (aft f [L] (setL m L (.buf k es))) L (.own L k 0 n) v x') (hn : noLocs es = true) (hlen : es.length = n) (hL : x.β L = none) (hfL : f L = none) : ∃ x'', x''.w = x'.w ∧ Goal ν x f L (.sl k es) v x'' := by
  obtain ⟨h1, h2, h3, h4⟩ := hg
  have hlk : aft f [L] (setL m L (.buf k es)) L = some (.buf k es) := by simp [aft, look_setL]
  let x'' : X := ⟨x'.w, fun b => x'.I b ∨ ∃ p, x'.β L = some p ∧ p.1 = b, x'.β⟩
  have hle : Le x' x'' := ⟨fun _ h => .inl h, fun _ _ => rfl, fun _ _ h => h⟩
  have ho : ∀ b base tot, x'.β L = some (b, base, tot) → x''.I b ∧ (∀ i, i < es.length → (es.getD i .any).cells.length = k) ∧ ∃ c : Nat → Nat → Value, ∀ i j, i < es.length → j < k →
      x''.w.cell? ⟨b, base + i * k + j, none⟩ = some (c i j) ∧ (c i j).oneCell' = true ∧ RD ν x'' (c i j) ((es.getD i .any).cells.getD j .any) := by
    intro b base tot hβ
    obtain ⟨o1, o2, o3, c, T, fr, o4, o5, o6, o7⟩ := h3.own L _ b base tot hlk hβ
    refine ⟨.inr ⟨_, hβ, rfl⟩, fun i hi => (o7 i hi).1, fun i j => c.getD (base + i * k + j) undef, fun i j hi hj => ⟨?_, ((o7 i hi).2 j hj).1, ((o7 i hi).2 j hj).2.mono hle⟩⟩
    exact cell_of_heap o4 (by have := idx_lt (tot := tot) (show i < tot by omega) hj; omega)
  have hrd : RD ν x'' v (.sl k es) := by
    have := h2.fz (x' := x'') (l := L) (k := k) (es := es) hle hn ho
    simpa [fzD, hlen, List.take_of_length_le] using this
  have hnew : ∀ b, (∃ p, x'.β L = some p ∧ p.1 = b) → x.w.heap.size ≤ b ∨ ∃ l p, x.β l = some p ∧ p.1 = b := by
    rintro b ⟨p, e1, e2⟩
    rcases h1.newβ L p e1 with h | h | ⟨l', p', h, h'⟩
    · rw [hL] at h; cases h
    · exact .inl (e2 ▸ h)
    · exact .inr ⟨l', p', h, h'.trans e2⟩
  refine ⟨x'', rfl, ⟨h1.os, h1.tape, h1.output, h1.size, fun b hb => .inl (h1.I b hb), h1.keep, h1.β, h1.old, fun b hb => ?_, h1.newβ⟩, hrd, ⟨fun l' blk b base tot e1 e2 => ?_, fun l1 l2 b base tot base' tot' e1 e2 e3 e4 => ?_, fun b hb => ?_, h3.bnd, gd_le hle h3.gd⟩, h4⟩
  · rcases hb with hb | hb
    · exact h1.newI b hb
    · exact .inr (hnew b hb)
  · have hne : l' ≠ L := by rintro rfl; rw [hfL] at e1; cases e1
    have e1' : aft f [L] (setL m L (.buf k es)) l' = some blk := by simp [aft, hne, e1]
    obtain ⟨o1, o2⟩ := h3.own l' blk b base tot e1' e2
    refine ⟨?_, o2.mono hle rfl⟩
    rintro (hb | ⟨⟨b', base', tot'⟩, q1, q2⟩)
    · exact o1 hb
    · simp only at q2; subst q2
      exact hne (h3.inj l' L b' base tot base' tot' (by rw [e1']; simp) (by rw [hlk]; simp) e2 q1)
  · have hn1 : ∀ l, f l ≠ none → aft f [L] (setL m L (.buf k es)) l ≠ none := fun l hl => by
      have hne : l ≠ L := by rintro rfl; exact hl hfL
      simpa [aft, hne] using hl
    exact h3.inj l1 l2 b base tot base' tot' (hn1 _ e1) (hn1 _ e2) e3 e4
  · rcases hb with hb | ⟨⟨b', base', tot'⟩, q1, q2⟩
    · exact h3.imm b hb
    · simp only at q2; subst q2; exact h3.bnd L _ _ _ q1
/-- an operation as it was compiled, or made a load of what is never written -/
def OpX (C : CC) (defs : List (Option Nat)) (o : Oper) (i : Ins) : Prop := C.op defs o = some i ∨ (∃ n ag p, i = .ldI n ag p ∧ C.op defs o = some (.ld n ag p)) ∨ (∃ k y, i = .appN k y ∧ C.op defs o = some (.app k (.c .nils) y)) ∨ ∃ k z n ps, i = .bslI k z n ps ∧ C.op defs o = some (.bsl k z n ps)
theorem op_anyX {o : Oper} {i : Ins} (hc : OpX C defs o i) (hncm : i.isCallM = false) (hΓ : Ok C.P C.ν C.eff Γ) (hρ : Rho C defs ρ ev x o.op.operands.toList) (hcst : ∀ d, ρ (.c d) = ⟨true, d⟩) (hob : i.obl Γ ρ m) (hs : Sim C.ν x f) (hag : agr f m (i.tch ρ)) (hL : x.β L = none) (hfL : f L = none) :
    Does C.P x (Goal C.ν x (aft f (i.wr ρ L) (i.eff Γ ρ m L)) L (i.val Γ ρ m L)) ((execOp ev o).run C.P x.w) := by
  rcases hc with hc | ⟨n, ag, p, rfl, hc⟩ | ⟨k, y, rfl, hc⟩ | ⟨k, z, n, ps, rfl, hc⟩
  · exact op_any hc hncm hΓ hρ hcst hob hs hag hL
  rotate_left
  rotate_left
  · obtain ⟨k1, k2, k3⟩ := hob
    have hob' : (Ins.bsl k z n ps).obl Γ ρ m := ⟨k1, k2⟩
    have := op_any (L := L) hc rfl hΓ hρ hcst hob' hs (by simp [Ins.tch, agr]) hL
    refine this.re fun v x' hg => ?_
    exact hg.ice k3 (by rw [fillI_len', List.length_replicate]) hL hfL
  rotate_left
  · obtain ⟨k1, k2, k3⟩ := hob
    have hob' : (Ins.app k (.c .nils) y).obl Γ ρ m := by simp only [Ins.obl, hcst]; exact ⟨trivial, k1, k2, k3⟩
    have := op_any (L := L) hc rfl hΓ hρ hcst hob' hs (by simpa [Ins.tch, hcst, locOf] using hag) hL
    have e1 : (Ins.appN k y).val Γ ρ m L = (Ins.app k (.c .nils) y).val Γ ρ m L := by simp [Ins.val, hcst]
    have e2 : (Ins.appN k y).wr ρ L = (Ins.app k (.c .nils) y).wr ρ L := by simp [Ins.wr, hcst, locOf]
    have e3 : (Ins.appN k y).eff Γ ρ m L = (Ins.app k (.c .nils) y).eff Γ ρ m L := by simp [Ins.eff, hcst]
    rw [e1, e2, e3]
    exact this
  · obtain ⟨k1, k2⟩ := hob
    cases hd : (ρ p).d <;> simp only [hd] at k2
    have hob' : (Ins.ld n ag p).obl Γ ρ m := by simp only [Ins.obl, hd, ldO]; exact ⟨k1, k2⟩
    have := op_any (L := L) hc rfl hΓ hρ hcst hob' hs (by simp [Ins.tch, hd, locOf, agr]) hL
    have e1 : (Ins.ldI n ag p).val Γ ρ m L = (Ins.ld n ag p).val Γ ρ m L := by simp [Ins.val, hd, ldV]
    rw [e1]
    exact this
end
end Go.Abs
end
section
namespace Go.Abs
variable [Glob]
section
variable {C : CC} {Γ : Ctx}
theorem idx?_spec : ∀ (l : List Nat) (t n : Nat), idx? l t = some n → l[n]? = some t
  | [], t, n, h => by simp [idx?] at h
  | a :: r, t, n, h => by
    simp only [idx?] at h
    split at h
    · rename_i e; simp only [Option.some.injEq] at h; subst h; simp [e]
    · simp only [Option.map_eq_some_iff] at h
      obtain ⟨k, h1, rfl⟩ := h
      simpa using idx?_spec r t k h1
theorem idx?_of : ∀ (l : List Nat) (t n : Nat), l.Nodup → l[n]? = some t → idx? l t = some n
  | [], t, n, _, h => by simp at h
  | a :: r, t, 0, _, h => by simp at h; simp [idx?, h]
  | a :: r, t, n + 1, hn, h => by
    simp only [List.getElem?_cons_succ] at h
    rw [List.nodup_cons] at hn
    have : a ≠ t := fun e => hn.1 (e ▸ List.mem_of_getElem? h)
    simp [idx?, this, idx?_of r t n hn.2 h]
theorem posOf_some : ∀ (l : List (Option Nat)) (t p : Nat), posOf t l = some p → l[p]? = some (some t)
  | [], t, n, h => by simp [posOf] at h
  | a :: r, t, n, h => by
    simp only [posOf] at h
    split at h
    · rename_i e; simp only [Option.some.injEq] at h; subst h; simp [e]
    · simp only [Option.map_eq_some_iff] at h
      obtain ⟨k, h1, rfl⟩ := h
      simpa using posOf_some r t k h1
theorem posOf_none : ∀ (l : List (Option Nat)) (t : Nat), posOf t l = none → ∀ p : Nat, l[p]? ≠ some (some t)
  | [], t, h, p => by simp
  | a :: r, t, h, p => by
    simp only [posOf] at h
    split at h
    · cases h
    · rename_i e
      simp only [Option.map_eq_none_iff] at h
      cases p with
      | zero => simpa using e
      | succ p => simpa using posOf_none r t h p
/-- what the compiler checked of a region -/
structure Spec (C : CC) (ops : List Oper) (l : List GI) : Prop where
  len : l.length = ops.length
  op : ∀ (i : Nat) (o : Oper), ops[i]? = some o → ∃ g, l[i]? = some g ∧ OpX C ((ops.map (·.dst)).take i) o g.i ∧ CC.guard ((ops.map (·.dst)).take i) o.guard = some g.g
  dst : ∀ (i : Nat) (o : Oper) (d : Nat), ops[i]? = some o → o.dst = some d → d < C.ntmps ∧ ∀ p : Nat, p < i → (ops.map (·.dst))[p]? ≠ some (some d)
theorem ops_spec : ∀ (ops pre : List Oper) (l lp : List GI), Spec C pre lp → C.ops (pre.map (·.dst)) ops = some l → Spec C (pre ++ ops) (lp ++ l)
  | [], pre, l, lp, hp, h => by simp [CC.ops] at h; subst h; simpa using hp
  | o :: r, pre, l, lp, hp, h => by
    simp only [CC.ops] at h
    split at h
    · rename_i i g l' h1 h2 h3
      split at h
      · rename_i hd
        simp only [Option.some.injEq] at h
        subst h
        have hp' : Spec C (pre ++ [o]) (lp ++ [⟨i, g⟩]) := by
          have hl := hp.len
          refine ⟨by simp [hl], fun j o' ho' => ?_, fun j o' d ho' hd' => ?_⟩
          · rw [List.getElem?_append] at ho'
            split at ho'
            · rename_i hj
              obtain ⟨g', a1, a2, a3⟩ := hp.op j o' ho'
              have e : ((pre ++ [o]).map (·.dst)).take j = (pre.map (·.dst)).take j := by rw [List.map_append, List.take_append_of_le_length (by simp; omega)]
              rw [e]
              exact ⟨g', by rw [List.getElem?_append_left (by omega)]; exact a1, a2, a3⟩
            · rename_i hj
              obtain rfl : j = pre.length := by
                have := (List.getElem?_eq_some_iff.1 ho').1
                simp at this; omega
              simp at ho'
              subst ho'
              have e : ((pre ++ [o]).map (·.dst)).take pre.length = pre.map (·.dst) := by simp
              rw [e]
              exact ⟨⟨i, g⟩, by rw [← hl]; simp, .inl h1, h2⟩
          · rw [List.getElem?_append] at ho'
            split at ho'
            · rename_i hj
              obtain ⟨a1, a2⟩ := hp.dst j o' d ho' hd'
              refine ⟨a1, fun p hpj => ?_⟩
              rw [List.map_append, List.getElem?_append_left (by simp; omega)]
              exact a2 p hpj
            · rename_i hj
              obtain rfl : j = pre.length := by
                have := (List.getElem?_eq_some_iff.1 ho').1
                simp at this; omega
              simp at ho'
              subst ho'
              simp only [hd', Option.all_some, Bool.and_eq_true, decide_eq_true_eq, Bool.not_eq_true', List.contains_eq_mem, decide_eq_false_iff_not] at hd
              refine ⟨hd.1, fun p hpj => ?_⟩
              rw [List.map_append, List.getElem?_append_left (by simp; omega)]
              exact fun e => hd.2 (List.mem_of_getElem? e)
        have := ops_spec r (pre ++ [o]) l' (lp ++ [⟨i, g⟩]) hp' (by simpa using h3)
        simpa using this
      · cases h
    · cases h
theorem Spec.start {ops : List Oper} {l : List GI} (h : C.ops [] ops = some l) : Spec C ops l := by
  have := ops_spec (C := C) ops [] l [] ⟨rfl, fun i o h => by simp at h, fun i o d h => by simp at h⟩ (by simpa using h)
  simpa using this
theorem toN_spec (i : Ins) : i.toN = i ∨ ∃ k y, i = .app k (.c .nils) y ∧ i.toN = .appN k y := by
  unfold Ins.toN
  split
  · rename_i k y; exact .inr ⟨k, y, rfl, rfl⟩
  · exact .inl rfl
theorem loosen_get (bs : List Nat) (l0 : List GI) : ∀ (l : List GI) (p i : Nat) (g : GI), l[i]? = some g → ∃ g', (loosen bs l0 p l)[i]? = some g' ∧ g'.g = g.g ∧ (g'.i = g.i ∨ (∃ n ag x, g.i = .ld n ag x ∧ g'.i = .ldI n ag x) ∨ (∃ k y, g.i = .app k (.c .nils) y ∧ g'.i = .appN k y) ∨ ∃ k z n ps, g.i = .bsl k z n ps ∧ g'.i = .bslI k z n ps)
  | [], p, i, g, h => by simp at h
  | a :: r, p, 0, g, h => by
    simp only [List.getElem?_cons_zero, Option.some.injEq] at h
    subst h
    simp only [loosen, List.getElem?_cons_zero, Option.some.injEq, exists_eq_left']
    split
    · rename_i n ag x hi
      split
      · exact ⟨rfl, .inr (.inl ⟨n, ag, x, hi, rfl⟩)⟩
      · exact ⟨rfl, .inl rfl⟩
    · rename_i k z n ps hi
      split
      · exact ⟨rfl, .inr (.inr (.inr ⟨k, z, n, ps, hi, rfl⟩))⟩
      · exact ⟨rfl, .inl rfl⟩
    · exact ⟨rfl, (toN_spec a.i).imp id fun h => .inr (.inl h)⟩
  | a :: r, p, i + 1, g, h => by
    simp only [loosen, List.getElem?_cons_succ] at h ⊢
    exact loosen_get bs l0 r (p + 1) i g h
theorem loosen_len (bs : List Nat) (l0 : List GI) : ∀ (l : List GI) (p : Nat), (loosen bs l0 p l).length = l.length
  | [], p => rfl
  | a :: r, p => by simp only [loosen, List.length_cons, loosen_len bs l0 r (p + 1)]
theorem Spec.loosen {ops : List Oper} {l : List GI} (bs : List Nat) (h : Spec C ops l) : Spec C ops (loosen bs l 0 l) := by
  refine ⟨by rw [loosen_len]; exact h.len, fun i o ho => ?_, h.dst⟩
  obtain ⟨g, h1, h2, h3⟩ := h.op i o ho
  obtain ⟨g', a1, a2, a3⟩ := loosen_get bs l l 0 i g h1
  refine ⟨g', a1, ?_, by rw [a2]; exact h3⟩
  rcases a3 with e | ⟨n, ag, x, e1, e2⟩ | ⟨k, y, e1, e2⟩ | ⟨k, z, n, ps, e1, e2⟩
  · rw [e]; exact h2
  · rw [e1] at h2
    rcases h2 with h2 | ⟨n', ag', p', h4, _⟩ | ⟨k', y', h4, _⟩ | ⟨_, _, _, _, h4, _⟩
    · exact .inr (.inl ⟨n, ag, x, e2, h2⟩)
    all_goals cases h4
  · rw [e1] at h2
    rcases h2 with h2 | ⟨n', ag', p', h4, _⟩ | ⟨k', y', h4, _⟩ | ⟨_, _, _, _, h4, _⟩
    · exact .inr (.inr (.inl ⟨k, y, e2, h2⟩))
    all_goals cases h4
  · rw [e1] at h2
    rcases h2 with h2 | ⟨n', ag', p', h4, _⟩ | ⟨k', y', h4, _⟩ | ⟨_, _, _, _, h4, _⟩
    · exact .inr (.inr (.inr ⟨k, z, n, ps, e2, h2⟩))
    all_goals cases h4
theorem Spec.distinct {ops : List Oper} {l : List GI} (h : Spec C ops l) {i p d : Nat} (hi : (ops.map (·.dst))[i]? = some (some d)) (hp : (ops.map (·.dst))[p]? = some (some d)) : p = i := by
  rw [List.getElem?_map, Option.map_eq_some_iff] at hi hp
  obtain ⟨oi, hi1, hi2⟩ := hi
  obtain ⟨op, hp1, hp2⟩ := hp
  rcases Nat.lt_trichotomy p i with h1 | h1 | h1
  · exact absurd (by rw [List.getElem?_map, hp1, Option.map_some, hp2]) ((h.dst i oi d hi1 hi2).2 p h1)
  · exact h1
  · exact absurd (by rw [List.getElem?_map, hi1, Option.map_some, hi2]) ((h.dst p op d hp1 hp2).2 i h1)
/-- between two operations -/
structure Mid (C : CC) (env : List Ent) (DD : List (Option Nat)) (VS : List Ent) (D : Nat → Prop) (a : Act) (x : X) : Prop where
  val : ∀ p t : Nat, D p → DD[p]? = some (some t) → (VS.getD p .un).ok = true → RD C.ν x (a.tmps.getD t undef) (VS.getD p .un).d
  und : ∀ p t : Nat, D p → DD[p]? = some (some t) → (VS.getD p .un).ok = false → a.tmps.getD t undef = undef
  old : ∀ n t : Nat, C.slots[n]? = some t → (∀ p, D p → DD[p]? ≠ some (some t)) → (env.getD n .un).ok = true → RD C.ν x (a.tmps.getD t undef) (env.getD n .un).d
  size : a.tmps.size = C.ntmps
  defers : a.defers = []
theorem put_tmps (a : Act) (d : Nat) (v : Value) (t : Nat) (h : d < a.tmps.size) : (a.put (some d) v).tmps.getD t undef = if t = d then v else a.tmps.getD t undef := by
  simp only [Act.put, Array.getD_eq_getD_getElem?]
  rw [Array.getElem?_setIfInBounds]
  by_cases e : d = t
  · subst e; simp [h]
  · simp [e, Ne.symm e]
theorem Mid.put {env : List Ent} {DD : List (Option Nat)} {VS : List Ent} {D D' : Nat → Prop} {a : Act} {x x' : X} {i : Nat} {dst : Option Nat} {v : Value} (h : Mid C env DD VS D a x) (hle : Le x x') (hd : DD[i]? = some dst)
    (hdst : ∀ t, dst = some t → t < C.ntmps ∧ ∀ p, p ≠ i → DD[p]? ≠ some (some t)) (hv : (VS.getD i .un).ok = true → RD C.ν x' v (VS.getD i .un).d) (hu : (VS.getD i .un).ok = false → v = undef)
    (hD : ∀ p, D' p ↔ D p ∨ p = i) : Mid C env DD VS D' (a.put dst v) x' := by
  cases dst with
  | none =>
    have hne : ∀ p t, DD[p]? = some (some t) → p ≠ i := fun p t e e' => by subst e'; rw [hd] at e; simp at e
    refine ⟨fun p t hp e ho => ?_, fun p t hp e ho => ?_, fun n t hn hp ho => ?_, h.size, h.defers⟩
    · exact (h.val p t (((hD p).1 hp).resolve_right (hne p t e)) e ho).mono hle
    · exact h.und p t (((hD p).1 hp).resolve_right (hne p t e)) e ho
    · exact (h.old n t hn (fun p hp' => hp p ((hD p).2 (.inl hp'))) ho).mono hle
  | some d =>
    obtain ⟨h1, h2⟩ := hdst d rfl
    have hg := put_tmps a d v (h := by rw [h.size]; exact h1)
    refine ⟨fun p t hp e ho => ?_, fun p t hp e ho => ?_, fun n t hn hp ho => ?_, by simp [Act.put, h.size], h.defers⟩
    · by_cases hpi : p = i
      · subst hpi
        rw [hd] at e
        simp only [Option.some.injEq] at e
        subst e
        rw [hg, if_pos rfl]; exact hv ho
      · have : t ≠ d := fun e' => h2 p hpi (e' ▸ e)
        rw [hg, if_neg this]
        exact (h.val p t (((hD p).1 hp).resolve_right hpi) e ho).mono hle
    · by_cases hpi : p = i
      · subst hpi
        rw [hd] at e
        simp only [Option.some.injEq] at e
        subst e
        rw [hg, if_pos rfl]; exact hu ho
      · have : t ≠ d := fun e' => h2 p hpi (e' ▸ e)
        rw [hg, if_neg this]
        exact h.und p t (((hD p).1 hp).resolve_right hpi) e ho
    · have : t ≠ d := fun e' => hp i ((hD i).2 (.inr rfl)) (by rw [hd, e'])
      rw [hg, if_neg this]
      exact (h.old n t hn (fun p hp' => hp p ((hD p).2 (.inl hp'))) ho).mono hle
theorem getD_take {α : Type} (l : List α) (i p : Nat) (d : α) (h : p < i) : (l.take i).getD p d = l.getD p d := by
  simp [List.getD, List.getElem?_take, h]
theorem Mid.rho {env : List Ent} {DD : List (Option Nat)} {VS : List Ent} {D : Nat → Prop} {a : Act} {x : X} {i : Nat} {os : List Operand} (h : Mid C env DD VS D a x)
    (hr : ∀ t p, Operand.tmp t ∈ os → DD[p]? = some (some t) → (p < i → D p) ∧ (i ≤ p → ¬ D p)) : Rho C (DD.take i) (Src.ev env (VS.take i)) a.eval x os := by
  intro o ho s hs hok
  cases o with
  | tmp t =>
    simp only [CC.src] at hs
    split at hs
    · rename_i p hp
      simp only [Option.some.injEq] at hs
      subst hs
      have hp1 := posOf_some _ _ _ hp
      rw [List.getElem?_take] at hp1
      split at hp1
      · rename_i hpi
        simp only [Src.ev] at hok ⊢
        rw [getD_take _ _ _ _ hpi] at hok ⊢
        exact h.val p t ((hr t p ho hp1).1 hpi) hp1 hok
      · cases hp1
    · rename_i hp
      simp only [Option.map_eq_some_iff] at hs
      obtain ⟨n, h1, rfl⟩ := hs
      simp only [Src.ev] at hok ⊢
      refine h.old n t (idx?_spec _ _ _ h1) (fun p hp' e => ?_) hok
      by_cases hpi : p < i
      · exact posOf_none _ _ hp p (by rw [List.getElem?_take, if_pos hpi]; exact e)
      · exact (hr t p ho e).2 (by omega) hp'
  | const v =>
    simp only [CC.src, Option.map_eq_some_iff] at hs
    obtain ⟨d, h1, rfl⟩ := hs
    exact constD_sound v d h1
  | func f =>
    simp only [CC.src, Option.map_eq_some_iff] at hs
    obtain ⟨n, h1, rfl⟩ := hs
    exact .fn f n #[] [] h1 rfl (fun i hi => by simp at hi)
  | global g => simp [CC.src] at hs
theorem gok_f {vs : List Ent} {i : Ins} {g : Option (Nat × Bool)} (h : gok vs i g) : gokF vs g := by
  cases g with
  | none => trivial
  | some jw => exact h.2
theorem wanted_flag {env : List Ent} {ops : Array Oper} {VS : List Ent} {D : Nat → Prop} {a : Act} {x : X} {i : Nat} {o : Oper} {g : GI} (h : Mid C env (ops.toList.map (·.dst)) VS D a x)
    (hg : CC.guard ((ops.toList.map (·.dst)).take i) o.guard = some g.g) (hD : ∀ j w, o.guard = some (j, w) → j < i → D j) (hgok : gokF (VS.take i) g.g) : Region.wanted o (yielded ops a.tmps) = flag (VS.take i) g.g := by
  unfold Region.wanted
  cases hog : o.guard with
  | none => simp only [hog, CC.guard, Option.some.injEq] at hg; simp [← hg, flag]
  | some jw =>
    obtain ⟨j, w⟩ := jw
    simp only [hog, CC.guard] at hg
    split at hg
    · rename_i t hj
      simp only [Option.some.injEq] at hg
      rw [← hg] at hgok ⊢
      rw [List.getElem?_take] at hj
      split at hj
      · rename_i hji
        have hDj := hD j w hog hji
        have hy : (ops[j]?).bind (·.dst) = some t := by
          rw [List.getElem?_map, Array.getElem?_toList] at hj
          cases ho : ops[j]? with
          | none => simp [ho] at hj
          | some oj => simpa [ho] using hj
        simp only [yielded, hy, Option.bind_some, flag, gokF] at hgok ⊢
        rw [getD_take _ _ _ _ hji] at hgok ⊢
        cases hok : (VS.getD j .un).ok with
        | false =>
          have := h.und j t hDj hj hok
          simp only [Array.getD_eq_getD_getElem?] at this
          cases ht : a.tmps[t]? with
          | none => simp
          | some v => simp only [ht, Option.getD_some] at this; subst this; simp [undef]
        | true =>
          have hb := hgok hok
          have hv := h.val j t hDj hj hok
          cases hd : (VS.getD j .un).d <;> simp only [hd, Go.Abs.D.isBool] at hb <;> try cases hb
          rename_i b
          rw [hd] at hv
          have hv := hv.bool_inv
          simp only [Array.getD_eq_getD_getElem?] at hv
          cases ht : a.tmps[t]? with
          | none => simp [ht, undef] at hv
          | some v => simp only [ht, Option.getD_some] at hv; subst hv; simp
      · cases hj
    · cases hg
end
end Go.Abs
end
section
namespace Go.Abs
variable [Glob]
section
variable {C : CC} {Γ : Ctx} {ρ : Src → Ent} {m : List (Nat × Blk)} {L : Nat}
theorem eff_wr {i : Ins} {l : Nat} (h : l ∉ i.wr ρ L) : look (i.eff Γ ρ m L) l = look m l := by
  cases i <;> simp only [Ins.wr, List.mem_cons, List.not_mem_nil, or_false, not_or] at h <;> simp only [Ins.eff]
  case box => rw [look_setL, if_neg h]
  case bsl => rw [look_setL, if_neg h]
  case mks => rw [look_setL, if_neg h]
  case s2b x => split <;> first | rw [look_setL, if_neg h] | rfl
  case appN k y => rw [look_setL, if_neg h]
  case rng x => split <;> first | rw [look_setL, if_neg h] | rfl
  case st n p v =>
    split
    · rename_i hd; rw [hd] at h; rw [look_setL, if_neg (by simpa [locOf] using h)]
    · rfl
  case app k x y =>
    split
    · rename_i hd; rw [hd] at h; rw [look_setL, if_neg h.1, look_delL, if_neg (by simpa [locOf] using h.2)]
    · rw [look_setL, if_neg h.1]
  case nxt x =>
    split
    · rename_i hd
      rw [hd] at h
      split
      · rename_i s pos _
        cases decide (pos < s.length) <;> simp only [cond_true, cond_false]
        rw [look_setL, if_neg (by simpa [locOf] using h)]
      · rfl
    · rfl
  case callF n r args sh =>
    split
    · rename_i hd; rw [hd] at h; rw [look_setL, if_neg (by simpa [locOf] using h)]
    · rfl
theorem calm_wr {i : Ins} (h : i.calm = true) {l : Nat} (hl : l ∈ i.wr ρ L) : l = L := by
  cases i <;> simp_all [Ins.calm, Ins.wr]
theorem bufOK_look {l k n : Nat} (h : bufOK m l k n) : look m l ≠ none := by
  intro e; simp [bufOK, e] at h
theorem obl_wr {i : Ins} (h : i.obl Γ ρ m) {l : Nat} (hl : l ∈ i.wr ρ L) : l = L ∨ look m l ≠ none := by
  cases i <;> simp only [Ins.wr, List.mem_cons, List.not_mem_nil, or_false] at hl <;> first
    | exact .inl hl
    | exact hl.elim
    | skip
  case st n p v =>
    right
    obtain ⟨_, _, _, h4⟩ := h
    cases hd : (ρ p).d <;> simp only [hd, locOf, List.mem_singleton] at h4 hl
    subst hl
    exact bufOK_look h4.1
  case app k x y =>
    rcases hl with hl | hl
    · exact .inl hl
    · right
      obtain ⟨_, _, _, h4⟩ := h
      cases hd : (ρ x).d <;> simp only [hd, locOf, List.mem_singleton, List.not_mem_nil] at h4 hl
      subst hl
      exact bufOK_look h4.2.1
  case nxt x =>
    right
    obtain ⟨_, h4⟩ := h
    cases hd : (ρ x).d <;> simp only [hd, locOf, List.mem_singleton, List.not_mem_nil] at h4 hl
    subst hl
    intro e
    simp [e] at h4
  case callF n r args sh =>
    right
    obtain ⟨_, _, _, h4⟩ := h
    cases hd : (ρ r).d <;> simp only [hd, locOf, List.mem_singleton, List.not_mem_nil] at h4 hl
    subst hl
    exact bufOK_look h4.2.2.1
theorem eff_new {i : Ins} (h : i.calm = true ∨ i.obl Γ ρ m) {l : Nat} (hl : look (i.eff Γ ρ m L) l ≠ none) : look m l ≠ none ∨ l = L := by
  by_cases hw : l ∈ i.wr ρ L
  · rcases h with h | h
    · exact .inr (calm_wr h hw)
    · exact (obl_wr h hw).symm
  · left; rwa [eff_wr hw] at hl
omit [Glob] in
theorem pure_eff {i : Ins} (h : i.pure = true) : i.eff Γ ρ m L = m := by
  cases i <;> simp_all [Ins.pure, Ins.eff]
omit [Glob] in
theorem pure_calm {i : Ins} (h : i.pure = true) : i.calm = true := by
  cases i <;> simp_all [Ins.pure, Ins.calm]
theorem pure_tch {i : Ins} (h : i.pure = true) : i.tch ρ = some [] := by
  cases i <;> simp_all [Ins.pure, Ins.tch]
theorem free_calm {i : Ins} (h : i.free = true) : i.calm = true := by
  cases i <;> simp_all [Ins.free, Ins.calm, Ins.pure]
theorem free_wr {i : Ins} (h : i.free = true) : i.wr ρ L = [] := by
  cases i <;> simp_all [Ins.free, Ins.wr, Ins.pure]
theorem free_eff {i : Ins} (h : i.free = true) : i.eff Γ ρ m L = m := by
  cases i <;> simp_all [Ins.free, Ins.eff, Ins.pure]
theorem purVO_isA {sh : List Sh} (h : sh.all Sh.isA = true) : ∀ {d : D}, purVO m sh d → d.noLoc = true := by
  have hL : ∀ (sh : List Sh) (ds : List D), sh.all Sh.isA = true → purLO m sh ds → noLocs ds = true := by
    intro sh
    induction sh with
    | nil => intro ds _ h; simpa [purLO] using h
    | cons s r ih =>
      intro ds h ho
      cases ds with
      | nil => rfl
      | cons d ds =>
        simp only [List.all_cons, Bool.and_eq_true] at h
        simp only [purLO] at ho
        have hs : s = .a := by cases s <;> simp_all [Sh.isA]
        subst hs
        simp only [noLocs, Bool.and_eq_true]
        exact ⟨by simpa [purCO] using ho.1, ih ds h.2 ho.2⟩
  intro d ho
  cases sh with
  | nil => simpa [purVO] using ho
  | cons s r =>
    have hs : s = .a := by simp only [List.all_cons, Bool.and_eq_true] at h; cases s <;> simp_all [Sh.isA]
    cases d <;> simp only [purVO] at ho <;> first
      | (subst hs; simpa [purCO] using ho)
      | (rw [D.noLoc_agg]; exact hL _ _ h ho)
theorem pursO_isA : ∀ {ss : List (List Sh)} {ds : List D}, ss.all (fun s => s.all Sh.isA) = true → pursO m ss ds → noLocs ds = true
  | ss, [], _, _ => by simp [noLocs]
  | [], d :: r, h, ho => by
    simp only [pursO] at ho
    simp only [noLocs, Bool.and_eq_true]
    exact ⟨purVO_isA (sh := [.a]) rfl ho.1, pursO_isA (ss := []) rfl ho.2⟩
  | s :: ss, d :: r, h, ho => by
    simp only [pursO] at ho
    simp only [List.all_cons, Bool.and_eq_true] at h
    simp only [noLocs, Bool.and_eq_true]
    exact ⟨purVO_isA h.1 ho.1, pursO_isA h.2 ho.2⟩
theorem free_tch {i : Ins} (h : i.free = true) (ho : i.obl Γ ρ m) : i.tch ρ = some [] := by
  cases i <;> simp only [Ins.free] at h <;> try (exact pure_tch h)
  simp only [Ins.tch, pursO_isA h ho.2.1, cond_true]
theorem maker_calm {i : Ins} (h : i.maker = true) : i.calm = true := by
  cases i <;> simp_all [Ins.maker, Ins.calm]
theorem maker_tch {i : Ins} (h : i.maker = true) : i.tch ρ = some [] := by
  cases i <;> simp_all [Ins.maker, Ins.tch]
theorem elsO_look {k : Nat} {d : D} (h : elsO m k d) {l : Nat} (hl : l ∈ locOf d) : look m l ≠ none := by
  cases d <;> simp only [locOf, List.mem_singleton, List.not_mem_nil, elsO] at h hl
  subst hl
  exact bufOK_look h.2
theorem obl_tch {i : Ins} (h : i.obl Γ ρ m) {ls : List Nat} (hls : i.tch ρ = some ls) {l : Nat} (hl : l ∈ ls) : look m l ≠ none := by
  cases i <;> simp only [Ins.tch, Option.some.injEq, reduceCtorEq] at hls <;> first
    | (subst hls; exact absurd hl List.not_mem_nil)
    | skip
  case ld n ag p =>
    subst hls
    obtain ⟨_, h4⟩ := h
    cases hd : (ρ p).d <;> simp only [hd, locOf, List.mem_singleton, List.not_mem_nil, ldO] at h4 hl
    subst hl
    exact bufOK_look h4.1
  case st n p v =>
    subst hls
    obtain ⟨_, _, _, h4⟩ := h
    cases hd : (ρ p).d <;> simp only [hd, locOf, List.mem_singleton] at h4 hl
    subst hl
    exact bufOK_look h4.1
  case b2s x =>
    subst hls
    exact elsO_look h.2.2.1 hl
  case app k x y =>
    subst hls
    obtain ⟨_, _, h3, h4⟩ := h
    rw [List.mem_append] at hl
    rcases hl with hl | hl
    · cases hd : (ρ x).d <;> simp only [hd, locOf, List.mem_singleton, List.not_mem_nil] at h4 hl
      subst hl
      exact bufOK_look h4.2.1
    · exact elsO_look h3 hl
  case appN k y =>
    subst hls
    exact elsO_look h.2.1 hl
  case nxt x =>
    subst hls
    obtain ⟨_, h4⟩ := h
    cases hd : (ρ x).d <;> simp only [hd, locOf, List.mem_singleton, List.not_mem_nil] at h4 hl
    subst hl
    intro e
    simp [e] at h4
  case call f args sh =>
    cases hn : noLocs (dds ρ args) <;> simp only [hn, cond_true, cond_false, Option.some.injEq, reduceCtorEq] at hls
    subst hls; exact absurd hl (by simp)
  case callv f args sh =>
    cases hd : (ρ f).d <;> simp only [hd, reduceCtorEq] at hls
    rename_i n caps
    cases hn : noLocs (dds ρ args ++ caps) <;> simp only [hn, cond_true, cond_false, Option.some.injEq, reduceCtorEq] at hls
    subst hls; exact absurd hl (by simp)
  case callF n r args sh =>
    subst hls
    obtain ⟨_, _, _, h4⟩ := h
    cases hd : (ρ r).d <;> simp only [hd, locOf, List.mem_singleton, List.not_mem_nil] at h4 hl
    subst hl
    exact bufOK_look h4.2.2.1
omit [Glob] in
theorem regW_fork {draw : Bool} {i : Ins} {g : Option (Nat × Bool)} {r : List GI} {env vs : List Ent} {st : St} {K : List Ent → St → Prop} (h : i.isCallM = false) (hf : i.forks draw g = true) :
    regW Γ draw (⟨i, g⟩ :: r) env vs st K = (gokF vs g ∧ (flag vs g = true → i.obl Γ (Src.ev env vs) st.m ∧
          regW Γ draw r env (vs ++ [⟨true, i.val Γ (Src.ev env vs) st.m (st.nx + vs.length)⟩]) { st with m := i.eff Γ (Src.ev env vs) st.m (st.nx + vs.length) } K) ∧
        (flag vs g = false → regW Γ draw r env (vs ++ [⟨false, .any⟩]) st K)) := by
  cases i <;> first
    | (simp [Ins.isCallM] at h; done)
    | (simp only [regW]; rw [if_pos hf])
omit [Glob] in
theorem regW_cons {draw : Bool} {i : Ins} {g : Option (Nat × Bool)} {r : List GI} {env vs : List Ent} {st : St} {K : List Ent → St → Prop} (h : i.isCallM = false) (hf : i.forks draw g = false) :
    regW Γ draw (⟨i, g⟩ :: r) env vs st K = (gok vs i g ∧ (flag vs g = true → i.obl Γ (Src.ev env vs) st.m) ∧
      ((flag vs g = true → i.asm draw (Src.ev env vs)) → ∃ d, (flag vs g = true → i.val Γ (Src.ev env vs) st.m (st.nx + vs.length) = d) ∧
        regW Γ draw r env (vs ++ [⟨flag vs g, d⟩]) { st with m := i.eff Γ (Src.ev env vs) st.m (st.nx + vs.length) } K)) := by
  cases i <;> first
    | (simp [Ins.isCallM] at h; done)
    | (simp only [regW]; rw [if_neg (by rw [hf]; simp)])
theorem RD.len63 {ν : List (Nat × Nat)} {x : X} {v : Value} {d : D} (h : RD ν x v d) : (∀ k es, d = .sl k es → es.length ≤ 9223372036854775807) ∧ (∀ l k i n, d = .own l k i n → n ≤ 9223372036854775807) ∧ (∀ s, d = .str s → s.length ≤ 9223372036854775807) := by
  cases h <;> refine ⟨?_, ?_, ?_⟩ <;> intros <;> simp_all [maxLen] <;> omega
theorem asm_of {i : Ins} {draw : Bool} (h : ∀ s, (i = .len s ∨ i = .lenS s) → (draw = true → s.isS = true) → (ρ s).ok = true → ∃ ν x v, RD ν x v (ρ s).d) : i.asm draw ρ := by
  cases i <;> simp only [Ins.asm]
  case len s =>
    cases hb : (draw && !s.isS) <;> simp only [cond_true, cond_false]
    intro hok
    obtain ⟨ν, x, v, hr⟩ := h s (.inl rfl) (fun hd => by simpa [hd] using hb) hok
    obtain ⟨a1, a2, a3⟩ := hr.len63
    cases hd : (ρ s).d <;> simp only
    · exact a1 _ _ hd
    · exact a2 _ _ _ _ hd
  case lenS s =>
    cases hb : (draw && !s.isS) <;> simp only [cond_true, cond_false]
    intro hok
    obtain ⟨ν, x, v, hr⟩ := h s (.inr rfl) (fun hd => by simpa [hd] using hb) hok
    obtain ⟨a1, a2, a3⟩ := hr.len63
    cases hd : (ρ s).d <;> simp only
    exact a3 _ hd
theorem op_len_inv {defs : List (Option Nat)} {o : Oper} {s : Src} (hc : C.op defs o = some (.len s) ∨ C.op defs o = some (.lenS s)) : ∃ p ∈ o.op.operands.toList, C.src defs p = some s := by
  cases ho : o.op with
  | call c =>
    obtain ⟨callee, args, argTypes⟩ := c
    cases callee with
    | builtin bu =>
      cases bu with
      | len =>
        simp only [CC.op, ho] at hc
        split at hc
        · rename_i p t hargs htys
          refine ⟨p, by simp [Op.operands, Call.operands, hargs], ?_⟩
          split at hc <;> simp_all
        · simp at hc
      | append => simp only [CC.op, ho] at hc; (repeat' split at hc) <;> simp_all
      | _ => simp [CC.op, ho] at hc
    | value f =>
      cases f with
      | func fid => simp only [CC.op, ho] at hc; (repeat' split at hc) <;> simp_all
      | tmp t => simp only [CC.op, ho] at hc; (repeat' split at hc) <;> simp_all
      | _ => simp [CC.op, ho] at hc
    | invoke r n => simp [CC.op, ho] at hc
  | makeFunc fn fst caps => cases fn <;> simp only [CC.op, ho] at hc <;> (repeat' split at hc) <;> simp_all
  | next it b => cases b <;> simp [CC.op, ho] at hc
  | _ =>
    simp only [CC.op, ho] at hc
    (try (repeat' split at hc)) <;> simp at hc
theorem op_callM_inv {defs : List (Option Nat)} {o : Oper} {n : Nat} {ss : List Src} (hc : C.op defs o = some (.callM n ss)) :
    ∃ fid args tys, o.op = .call { callee := .value (.func fid), args, argTypes := tys } ∧ assoc? C.ν fid = some n ∧ C.eff.contains (2 * n) = true ∧ C.srcs defs args.toList = some ss := by
  cases ho : o.op with
  | call c =>
    obtain ⟨callee, args, argTypes⟩ := c
    cases callee with
    | builtin bu =>
      cases bu with
      | len => simp only [CC.op, ho] at hc; (repeat' split at hc) <;> simp_all
      | append => simp only [CC.op, ho] at hc; (repeat' split at hc) <;> simp_all
      | _ => simp [CC.op, ho] at hc
    | value f =>
      cases f with
      | func fid =>
        simp only [CC.op, ho] at hc
        split at hc
        · rename_i n' ss' h1 h2
          split at hc
          · rename_i h3
            simp only [Option.some.injEq, Ins.callM.injEq] at hc
            obtain ⟨rfl, rfl⟩ := hc
            exact ⟨fid, args, argTypes, rfl, h1, h3, h2⟩
          · (repeat' split at hc) <;> simp at hc
        · cases hc
      | tmp t => simp only [CC.op, ho] at hc; (repeat' split at hc) <;> simp_all
      | _ => simp [CC.op, ho] at hc
    | invoke r n => simp [CC.op, ho] at hc
  | makeFunc fn fst caps => cases fn <;> simp only [CC.op, ho] at hc <;> (repeat' split at hc) <;> simp_all
  | next it b => cases b <;> simp [CC.op, ho] at hc
  | _ =>
    simp only [CC.op, ho] at hc
    (try (repeat' split at hc)) <;> simp at hc
theorem op_callM {x : X} {defs : List (Option Nat)} {ev : Operand → Value} {o : Oper} {n : Nat} {ss : List Src} {st : St} {K : D → St → Prop} (hcst : ∀ d, ρ (.c d) = ⟨true, d⟩) (hΓ : Ok C.P C.ν C.eff Γ)
    (hc : C.op defs o = some (.callM n ss)) (hρ : Rho C defs ρ ev x o.op.operands.toList) (hok : oks ρ ss) (hs : Sim C.ν x (look st.m)) (hfr : Fresh st x) (htr : Γ.tr n (dds ρ ss) st K) :
    Does C.P x (fun v x' => ∃ d st', K d st' ∧ Step x x' ∧ RD C.ν x' v d ∧ Sim C.ν x' (look st'.m) ∧ Fresh st' x') ((execOp ev o).run C.P x.w) := by
  obtain ⟨fid, args, tys, ho, h1, h3, h2⟩ := op_callM_inv hc
  have hv := hρ (.func fid) (by simp [ho, Op.operands, Call.operands]) (.c (.fn n [])) (by simp [CC.src, h1]) (by rw [hcst])
  rw [hcst] at hv
  obtain ⟨s1, s2, s3⟩ := srcs_sound hρ _ _ (fun o' ho' => by simp only [ho, Op.operands, Call.operands]; simp at ho' ⊢; exact .inr ho') h2 hok
  generalize hep : ev (.func fid) = vf at hv
  cases hv with
  | fn fid' _ cs _ hν hl _ =>
    have hcs : cs = #[] := by apply Array.ext'; simpa using hl
    subst hcs
    have hrun : (execOp ev o).run C.P x.w = (callFunc fid' (args.map ev)).run C.P x.w := by
      simp [execOp, ho, resolve, Deferred.ofValue, invoke, hep]
    rw [hrun]
    refine hΓ.eff fid' n hν h3 x _ (dds ρ ss) st K (by simp; simpa using s2.symm) (fun i hi => ?_) hs hfr htr
    have := s3 i hi
    rwa [← Array.toList_map, toList_getD] at this
end
end Go.Abs
end
section
namespace Go.Abs
variable [Glob]
section
variable {C : CC} {Γ : Ctx}
theorem Fresh.up {st : St} {x : X} (h : Fresh st x) {n : Nat} (hn : st.nx ≤ n) : Fresh ⟨n, st.m⟩ x :=
  ⟨fun l hl => h.β l (Nat.le_trans hn hl), fun l hl => Nat.lt_of_lt_of_le (h.m l hl) hn⟩
theorem Mid.iff {env : List Ent} {DD : List (Option Nat)} {VS : List Ent} {D D' : Nat → Prop} {a : Act} {x : X} (h : Mid C env DD VS D a x) (hD : ∀ p, D' p ↔ D p) : Mid C env DD VS D' a x := by
  have : D' = D := funext fun p => propext (hD p)
  subst this; exact h
theorem Mid.ext {env : List Ent} {DD : List (Option Nat)} {vs : List Ent} {a : Act} {x : X} {k : Nat} (e : Ent) (h : Mid C env DD vs (· < k) a x) (hk : vs.length = k) : Mid C env DD (vs ++ [e]) (· < k) a x := by
  have hg : ∀ p, p < k → (vs ++ [e]).getD p .un = vs.getD p .un := fun p hp => by rw [getD_append, if_pos (by omega)]
  exact ⟨fun p t hp h1 h2 => by rw [hg p hp] at h2 ⊢; exact h.val p t hp h1 h2, fun p t hp h1 h2 => by rw [hg p hp] at h2; exact h.und p t hp h1 h2, h.old, h.size, h.defers⟩
theorem Sim.eq {ν : List (Nat × Nat)} {x : X} {f f' : Nat → Option Blk} (h : Sim ν x f) (e : ∀ l, f' l = f l) : Sim ν x f' := by
  have : f' = f := funext e
  subst this; exact h
theorem seq_run {ops : Array Oper} {l : List GI} (hsp : Spec C ops.toList l) (hΓ : Ok C.P C.ν C.eff Γ) {Q : Exit → Act → World → Prop} {env : List Ent} {K : List Ent → St → Prop} {x0 : X}
    (hK : ∀ vs' st' a' x', K vs' st' → vs'.length = ops.size → Mid C env (ops.toList.map (·.dst)) vs' (· < ops.size) a' x' → Step x0 x' → Sim C.ν x' (look st'.m) → Fresh st' x' → Q .normal a' x'.w) :
    ∀ (n k : Nat) (vs : List Ent) (st : St) (x : X) (a : Act), k + n = ops.size → vs.length = k → Mid C env (ops.toList.map (·.dst)) vs (· < k) a x → Step x0 x → Sim C.ν x (look st.m) → Fresh ⟨st.nx + k, st.m⟩ x →
      regW Γ false (l.drop k) env vs st K → wpOps C.P ops Q (List.range' k n) a x.w := by
  intro n
  induction n with
  | zero =>
    intro k vs st x a hkn hk hmid hst hs hf hw
    have hlen := hsp.len
    have hd : l.drop k = [] := List.drop_eq_nil_of_le (by simp at hlen; omega)
    rw [hd] at hw
    simp only [regW] at hw
    simp only [List.range'_zero, wpOps]
    obtain rfl : k = ops.size := by omega
    exact hK vs _ a x hw hk hmid hst hs (by rw [hk]; exact hf)
  | succ n ih =>
    intro k vs st x a hkn hk hmid hst hs hf hw
    have hkl : k < ops.size := by omega
    obtain ⟨o, ho⟩ : ∃ o, ops[k]? = some o := ⟨ops[k], by simp [hkl]⟩
    have ho' : ops.toList[k]? = some o := by simpa using ho
    obtain ⟨g, hg1, hg2, hg3⟩ := hsp.op k o ho'
    have hlk : k < l.length := by have := hsp.len; simp at this; omega
    have hdrop : l.drop k = g :: l.drop (k + 1) := by
      rw [List.drop_eq_getElem_cons hlk]
      congr 1
      exact (List.getElem?_eq_some_iff.1 hg1).2
    rw [hdrop] at hw
    have hvt : vs.take k = vs := List.take_of_length_le (by omega)
    have hρ : Rho C ((ops.toList.map (·.dst)).take k) (Src.ev env vs) a.eval x o.op.operands.toList := by
      have := hmid.rho (i := k) (os := o.op.operands.toList) (fun t p _ _ => ⟨fun h => h, fun h => by omega⟩)
      rwa [hvt] at this
    have hcst : ∀ d, Src.ev env vs (.c d) = ⟨true, d⟩ := fun _ => rfl
    have hdst : (ops.toList.map (·.dst))[k]? = some o.dst := by rw [List.getElem?_map, ho', Option.map_some]
    have hput : ∀ (e : Ent) (v : Value) (x' : X), Le x x' → (e.ok = true → RD C.ν x' v e.d) → (e.ok = false → v = undef) → Mid C env (ops.toList.map (·.dst)) (vs ++ [e]) (· < k + 1) (a.put o.dst v) x' := by
      intro e v x' hle h1 h2
      have he : (vs ++ [e]).getD k .un = e := by rw [getD_append, if_neg (by omega)]; simp [hk]
      refine (hmid.ext e hk).put (i := k) hle hdst (fun t ht => ⟨(hsp.dst k o t ho' ht).1, fun p hp e' => hp (hsp.distinct (by rw [hdst, ht]) e')⟩) (by rw [he]; exact h1) (by rw [he]; exact h2) (fun p => by omega)
    simp only [List.range'_succ, wpOps, ho]
    obtain ⟨i, gd⟩ := g
    by_cases hcm : i.isCallM = true
    · cases i <;> simp only [Ins.isCallM] at hcm <;> try cases hcm
      rename_i f ss
      simp only [regW] at hw
      obtain ⟨w1, w2, w3⟩ := hw
      have hgn : gd = none := by
        cases gd with
        | none => rfl
        | some jw => obtain ⟨j, w⟩ := jw; simp [gok, Ins.calm] at w1
      have hfl : Region.wanted o (yielded ops a.tmps) = true := by
        rw [wanted_flag (g := ⟨.callM f ss, gd⟩) hmid hg3 (fun j w _ h => h) (by rw [hvt]; exact gok_f w1), hgn]; rfl
      rw [if_pos hfl]
      left
      rw [hk] at w3
      refine (op_callM (st := ⟨st.nx + k, st.m⟩) hcst hΓ (by rcases hg2 with h | ⟨_, _, _, h, _⟩ | ⟨_, _, h, _⟩ | ⟨_, _, _, _, h, _⟩; exact h; cases h; cases h; cases h) hρ w2 hs hf w3).wp (fun v x' hG => ?_)
      obtain ⟨d, st', hK1, hst1, hrd, hs1, hf1⟩ := hG
      obtain ⟨hnx, hw'⟩ := hK1
      refine ih (k + 1) (vs ++ [⟨true, d⟩]) ⟨st'.nx - k, st'.m⟩ x' (a.put o.dst v) (by omega) (by simp [hk]) (hput ⟨true, d⟩ v x' hst1.le (fun _ => hrd) (fun h => by cases h)) (hst.trans hst1) hs1 ?_ hw'
      exact hf1.up (by simp only; omega)
    · have hcm' : i.isCallM = false := by simpa using hcm
      have hL : x.β (st.nx + k) = none := hf.β _ (Nat.le_refl _)
      have hlL : look st.m (st.nx + k) = none := by
        cases hx : look st.m (st.nx + k) with
        | none => rfl
        | some b => have := hf.m (st.nx + k) (by simp only; rw [hx]; simp); simp only at this; omega
      by_cases hfk : i.forks false gd = true
      · rw [regW_fork hcm' hfk] at hw
        obtain ⟨w1, w2, w3⟩ := hw
        have hfl := wanted_flag (g := ⟨i, gd⟩) hmid hg3 (fun j w _ h => h) (by rw [hvt]; exact w1)
        simp only [hvt] at hfl
        rw [hfl]
        rw [hk] at w2
        cases hfg : flag vs gd with
        | true =>
          rw [if_pos rfl]
          left
          obtain ⟨hob, hw'⟩ := w2 hfg
          have hag : agr (look st.m) st.m (i.tch (Src.ev env vs)) := by
            unfold agr; split <;> intros <;> rfl
          refine (op_anyX (L := st.nx + k) hg2 hcm' hΓ hρ hcst hob hs hag hL hlL).wp (fun v x' hG => ?_)
          obtain ⟨g1, g2, g3, g4⟩ := hG
          refine ih (k + 1) (vs ++ [⟨true, _⟩]) _ x' (a.put o.dst v) (by omega) (by simp [hk]) (hput ⟨true, _⟩ v x' g1.le (fun _ => g2) (fun h => by cases h)) (hst.trans g1) ?_ ?_ hw'
          · refine g3.eq fun l' => ?_
            by_cases hlw : l' ∈ i.wr (Src.ev env vs) (st.nx + k)
            · simp [aft, hlw]
            · simp only [aft, hlw, if_false]; exact eff_wr hlw
          · refine ⟨fun l' hl' => ?_, fun l' hl' => ?_⟩
            · have hl'' : st.nx + (k + 1) ≤ l' := hl'
              rw [g4 l' (by omega)]; exact hf.β l' (by show st.nx + k ≤ l'; omega)
            · show l' < st.nx + (k + 1)
              rcases eff_new (.inr hob) hl' with h | h
              · have := hf.m l' h; simp only at this; omega
              · omega
        | false =>
          rw [if_neg (by simp)]
          have hw' := w3 hfg
          refine ih (k + 1) (vs ++ [⟨false, .any⟩]) st x (a.put o.dst undef) (by omega) (by simp [hk]) (hput ⟨false, _⟩ undef x (Le.refl x) (fun h => by cases h) (fun _ => rfl)) hst hs ?_ hw'
          exact ⟨fun l' hl' => hf.β l' (by have hl'' : st.nx + (k + 1) ≤ l' := hl'; show st.nx + k ≤ l'; omega), fun l' hl' => by have := hf.m l' hl'; simp only at this ⊢; omega⟩
      rw [regW_cons hcm' (by simpa using hfk)] at hw
      obtain ⟨w1, w2, w3⟩ := hw
      have hfl := wanted_flag (g := ⟨i, gd⟩) hmid hg3 (fun j w _ h => h) (by rw [hvt]; exact gok_f w1)
      simp only [hvt] at hfl
      rw [hfl]
      rw [hk] at w3
      cases hfg : flag vs gd with
      | true =>
        rw [if_pos rfl]
        left
        have hob := w2 hfg
        have hasm : i.asm false (Src.ev env vs) := by
          refine asm_of fun s hs' _ hok => ?_
          obtain ⟨p, hp1, hp2⟩ := op_len_inv (C := C) (o := o) (s := s) (defs := (ops.toList.map (·.dst)).take k) (by rcases hs' with rfl | rfl <;> rcases hg2 with h | ⟨_, _, _, h, _⟩ | ⟨_, _, h, _⟩ | ⟨_, _, _, _, h, _⟩ <;> first | exact .inl h | exact .inr h | cases h)
          exact ⟨_, _, _, hρ p hp1 s hp2 hok⟩
        obtain ⟨dv, hdv, hw'⟩ := w3 (fun _ => hasm)
        replace hdv := hdv hfg
        have hag : agr (look st.m) st.m (i.tch (Src.ev env vs)) := by
          unfold agr; split <;> intros <;> rfl
        refine (op_anyX (L := st.nx + k) hg2 hcm' hΓ hρ hcst hob hs hag hL hlL).wp (fun v x' hG => ?_)
        obtain ⟨g1, g2, g3, g4⟩ := hG
        rw [hfg] at hw'
        rw [hdv] at g2
        refine ih (k + 1) (vs ++ [⟨true, _⟩]) _ x' (a.put o.dst v) (by omega) (by simp [hk]) (hput ⟨true, _⟩ v x' g1.le (fun _ => g2) (fun h => by cases h)) (hst.trans g1) ?_ ?_ hw'
        · refine g3.eq fun l' => ?_
          by_cases hlw : l' ∈ i.wr (Src.ev env vs) (st.nx + k)
          · simp [aft, hlw]
          · simp only [aft, hlw, if_false]; exact eff_wr hlw
        · refine ⟨fun l' hl' => ?_, fun l' hl' => ?_⟩
          · have hl'' : st.nx + (k + 1) ≤ l' := hl'
            rw [g4 l' (by omega)]; exact hf.β l' (by show st.nx + k ≤ l'; omega)
          · show l' < st.nx + (k + 1)
            rcases eff_new (.inr hob) hl' with h | h
            · have := hf.m l' h; simp only at this; omega
            · omega
      | false =>
        rw [if_neg (by simp)]
        have hcalm : i.calm = true := by
          cases gd with
          | none => simp [flag] at hfg
          | some jw => obtain ⟨j, w⟩ := jw; exact w1.1
        obtain ⟨dv, hdv, hw'⟩ := w3 (fun h => by rw [hfg] at h; cases h)
        rw [hfg] at hw'
        refine ih (k + 1) (vs ++ [⟨false, _⟩]) _ x (a.put o.dst undef) (by omega) (by simp [hk]) (hput ⟨false, _⟩ undef x (Le.refl x) (fun h => by cases h) (fun _ => rfl)) hst ?_ ?_ hw'
        · refine hs.less fun l' => ?_
          by_cases hlw : l' ∈ i.wr (Src.ev env vs) (st.nx + k)
          · exact .inr (.inr (by rw [calm_wr hcalm hlw]; exact hL))
          · exact .inl (eff_wr hlw)
        · refine ⟨fun l' hl' => hf.β l' (by have hl'' : st.nx + (k + 1) ≤ l' := hl'; show st.nx + k ≤ l'; omega), fun l' hl' => ?_⟩
          show l' < st.nx + (k + 1)
          rcases eff_new (Γ := Γ) (.inl hcalm) hl' with h | h
          · have := hf.m l' h; simp only at this; omega
          · omega
end
end Go.Abs
end
section
namespace Go.Abs
variable [Glob]
section
variable {C : CC} {Γ : Ctx}
/-- what the text's order yields -/
structure Trace (Γ : Ctx) (l : List GI) (env : List Ent) (nx : Nat) (VS : List Ent) (M : Nat → List (Nat × Blk)) : Prop where
  step : ∀ (k : Nat) (g : GI), l[k]? = some g → M (k + 1) = g.i.eff Γ (Src.ev env (VS.take k)) (M k) (nx + k)
  stop : ∀ k : Nat, l[k]? = none → M (k + 1) = M k
  ent : ∀ (k : Nat) (g : GI), l[k]? = some g → (VS.getD k .un).ok = flag (VS.take k) g.g ∧ (flag (VS.take k) g.g = true → g.i.val Γ (Src.ev env (VS.take k)) (M k) (nx + k) = (VS.getD k .un).d)
  gok : ∀ (k : Nat) (g : GI), l[k]? = some g → gok (VS.take k) g.i g.g
  obl : ∀ (k : Nat) (g : GI), l[k]? = some g → flag (VS.take k) g.g = true → g.i.obl Γ (Src.ev env (VS.take k)) (M k)
  len : VS.length = l.length
  fresh0 : ∀ l', look (M 0) l' ≠ none → l' < nx
theorem regW_trace {env : List Ent} {K : List Ent → St → Prop} : ∀ (l : List GI) (vs : List Ent) (st : St), (∀ g ∈ l, g.i.isCallM = false) → (∀ g ∈ l, ∀ vs', g.i.asm true (Src.ev env vs')) → regW Γ true l env vs st K →
    ∃ (VS : List Ent) (M : Nat → List (Nat × Blk)), VS.take vs.length = vs ∧ VS.length = vs.length + l.length ∧ (∀ k, k ≤ vs.length → M k = st.m) ∧ (∀ k, vs.length + l.length ≤ k → M k = M (vs.length + l.length)) ∧
      (∀ (k : Nat) (g : GI), l[k]? = some g → M (vs.length + k + 1) = g.i.eff Γ (Src.ev env (VS.take (vs.length + k))) (M (vs.length + k)) (st.nx + (vs.length + k)) ∧
        ((VS.getD (vs.length + k) .un).ok = flag (VS.take (vs.length + k)) g.g ∧ (flag (VS.take (vs.length + k)) g.g = true → g.i.val Γ (Src.ev env (VS.take (vs.length + k))) (M (vs.length + k)) (st.nx + (vs.length + k)) = (VS.getD (vs.length + k) .un).d)) ∧
        gok (VS.take (vs.length + k)) g.i g.g ∧ (flag (VS.take (vs.length + k)) g.g = true → g.i.obl Γ (Src.ev env (VS.take (vs.length + k))) (M (vs.length + k)))) ∧
      K VS ⟨st.nx + (vs.length + l.length), M (vs.length + l.length)⟩
  | [], vs, st, _, _, h => ⟨vs, fun _ => st.m, by simp, by simp, fun _ _ => rfl, fun _ _ => rfl, fun k g h => by simp at h, by simpa [regW] using h⟩
  | ⟨i, g⟩ :: r, vs, st, hcm, hasm, h => by
    rw [regW_cons (hcm _ (.head _)) rfl] at h
    obtain ⟨w1, w2, w3⟩ := h
    obtain ⟨dv, hdv, w3⟩ := w3 fun _ => hasm _ (.head _) vs
    obtain ⟨VS, M, a1, a2, a3, a4, a5, a6⟩ := regW_trace r _ _ (fun g hg => hcm g (.tail _ hg)) (fun g hg => hasm g (.tail _ hg)) w3
    simp only [List.length_append, List.length_cons, List.length_nil, Nat.zero_add] at a1 a2 a3 a4 a5 a6
    have b1 : VS.take vs.length = vs := by
      have := congrArg (List.take vs.length) a1
      rw [List.take_take, Nat.min_eq_left (by omega)] at this
      rw [this]; simp
    have b2 : VS.getD vs.length .un = ⟨flag vs g, dv⟩ := by
      have : (VS.take (vs.length + 1)).getD vs.length .un = VS.getD vs.length .un := getD_take _ _ _ _ (by omega)
      rw [← this, a1, getD_append, if_neg (by omega)]; simp
    refine ⟨VS, fun k => if k ≤ vs.length then st.m else M k, b1, by simp only [List.length_cons]; omega, fun k hk => by simp [hk], fun k hk => ?_, fun k gi hk => ?_, ?_⟩
    · simp only [List.length_cons] at hk ⊢
      rw [if_neg (by omega), if_neg (by omega), a4 k (by omega), a4 (vs.length + (r.length + 1)) (by omega)]
    · cases k with
      | zero =>
        simp only [List.getElem?_cons_zero, Option.some.injEq] at hk
        subst hk
        simp only [Nat.add_zero]
        rw [if_neg (by omega), if_pos (by omega), b1, b2, a3 (vs.length + 1) (by omega)]
        exact ⟨rfl, ⟨rfl, hdv⟩, w1, w2⟩
      | succ k =>
        simp only [List.getElem?_cons_succ] at hk
        have := a5 k gi hk
        simp only [show vs.length + 1 + k = vs.length + (k + 1) by omega] at this
        simp only [show ¬ (vs.length + (k + 1) + 1 ≤ vs.length) by omega, show ¬ (vs.length + (k + 1) ≤ vs.length) by omega, if_false]
        exact this
    · simp only [List.length_cons]
      rw [if_neg (by omega)]
      have e : vs.length + 1 + r.length = vs.length + (r.length + 1) := by omega
      rw [e] at a6
      exact a6
theorem regW_trace0 {env : List Ent} {K : List Ent → St → Prop} {l : List GI} {st : St} (hcm : ∀ g ∈ l, g.i.isCallM = false) (hasm : ∀ g ∈ l, ∀ vs', g.i.asm true (Src.ev env vs')) (hf : ∀ l', look st.m l' ≠ none → l' < st.nx)
    (h : regW Γ true l env [] st K) : ∃ VS M, Trace Γ l env st.nx VS M ∧ M 0 = st.m ∧ K VS ⟨st.nx + l.length, M l.length⟩ := by
  obtain ⟨VS, M, a1, a2, a3, a4, a5, a6⟩ := regW_trace l [] st hcm hasm h
  simp only [List.length_nil, Nat.zero_add] at a1 a2 a3 a4 a5 a6
  refine ⟨VS, M, ⟨fun k g hk => (a5 k g hk).1, fun k hk => ?_, fun k g hk => (a5 k g hk).2.1, fun k g hk => (a5 k g hk).2.2.1, fun k g hk => (a5 k g hk).2.2.2, a2, ?_⟩, a3 0 (Nat.le_refl _), a6⟩
  · rw [List.getElem?_eq_none_iff] at hk
    rw [a4 (k + 1) (by omega), a4 k hk]
  · rw [a3 0 (Nat.le_refl _)]; exact hf
section trace
variable {l : List GI} {env : List Ent} {nx : Nat} {VS : List Ent} {M : Nat → List (Nat × Blk)}
theorem Trace.calm_or (h : Trace Γ l env nx VS M) {k : Nat} {g : GI} (hg : l[k]? = some g) : g.i.calm = true ∨ (g.g = none ∧ g.i.obl Γ (Src.ev env (VS.take k)) (M k)) := by
  cases hc : g.i.calm with
  | true => exact .inl rfl
  | false =>
    right
    have h1 := h.gok k g hg
    have hn : g.g = none := by
      cases hgg : g.g with
      | none => rfl
      | some jw => obtain ⟨j, w⟩ := jw; rw [hgg] at h1; have := h1.1; rw [hc] at this; cases this
    exact ⟨hn, h.obl k g hg (by rw [hn]; rfl)⟩
theorem Trace.fresh (h : Trace Γ l env nx VS M) : ∀ (k l' : Nat), look (M k) l' ≠ none → l' < nx + k
  | 0, l', hl => h.fresh0 l' hl
  | k + 1, l', hl => by
    cases hg : l[k]? with
    | none =>
      rw [h.stop k hg] at hl
      have := Trace.fresh h k l' hl
      omega
    | some g =>
      rw [h.step k g hg] at hl
      have hco : g.i.calm = true ∨ g.i.obl Γ (Src.ev env (VS.take k)) (M k) := (h.calm_or hg).imp id (·.2)
      rcases eff_new hco hl with h1 | h1
      · have := Trace.fresh h k l' h1
        omega
      · omega
theorem Trace.between (h : Trace Γ l env nx VS M) {l' : Nat} : ∀ (n u : Nat), (∀ (q : Nat) (g : GI), u ≤ q → q < u + n → l[q]? = some g → l' ∉ g.i.wr (Src.ev env (VS.take q)) (nx + q)) → look (M (u + n)) l' = look (M u) l'
  | 0, u, _ => rfl
  | n + 1, u, hq => by
    rw [← Trace.between h n u (fun q g h1 h2 => hq q g h1 (by omega))]
    rw [← Nat.add_assoc]
    cases hg : l[u + n]? with
    | none => rw [h.stop _ hg]
    | some g => rw [h.step _ g hg]; exact eff_wr (hq (u + n) g (by omega) (by omega) hg)
theorem Trace.same (h : Trace Γ l env nx VS M) {l' u v : Nat} (hq : ∀ (q : Nat) (g : GI), min u v ≤ q → q < max u v → l[q]? = some g → l' ∉ g.i.wr (Src.ev env (VS.take q)) (nx + q)) : look (M u) l' = look (M v) l' := by
  rcases Nat.le_total u v with huv | huv
  · have := h.between (l' := l') (v - u) u (fun q g h1 h2 => hq q g (by omega) (by omega))
    rw [show u + (v - u) = v by omega] at this
    exact this.symm
  · have := h.between (l' := l') (u - v) v (fun q g h1 h2 => hq q g (by omega) (by omega))
    rw [show v + (u - v) = u by omega] at this
    exact this
end trace
theorem befOf_spec (acc : List Nat) (p : Nat) : ∀ (es : List Edge), (befOf acc es).testBit p = true → ∃ e ∈ es, Region.binds .any e = true ∧ (p = e.on ∨ (acc.getD e.on 0).testBit p = true)
  | [], h => by simp [befOf] at h
  | e :: r, h => by
    simp only [befOf] at h
    split at h
    · rename_i hb
      rw [Nat.testBit_or, Bool.or_eq_true, Nat.testBit_or, Bool.or_eq_true] at h
      rcases h with (h | h) | h
      · refine ⟨e, .head _, hb, .inl ?_⟩
        rw [Nat.testBit_two_pow] at h
        simpa using (of_decide_eq_true h).symm
      · exact ⟨e, .head _, hb, .inr h⟩
      · obtain ⟨e', h1, h2⟩ := befOf_spec acc p r h
        exact ⟨e', .tail _ h1, h2⟩
    · obtain ⟨e', h1, h2⟩ := befOf_spec acc p r h
      exact ⟨e', .tail _ h1, h2⟩
theorem befs_spec : ∀ (ops : List Oper) (acc : List Nat), (befs acc ops).take acc.length = acc ∧ (befs acc ops).length = acc.length + ops.length ∧
    ∀ (j : Nat) (o : Oper), ops[j]? = some o → (befs acc ops).getD (acc.length + j) 0 = befOf ((befs acc ops).take (acc.length + j)) o.after.toList
  | [], acc => ⟨by simp [befs], by simp [befs], fun j o h => by simp at h⟩
  | o :: r, acc => by
    obtain ⟨a1, a2, a3⟩ := befs_spec r (acc ++ [befOf acc o.after.toList])
    simp only [List.length_append, List.length_cons, List.length_nil, Nat.zero_add] at a1 a2 a3
    have e : befs acc (o :: r) = befs (acc ++ [befOf acc o.after.toList]) r := rfl
    rw [e]
    have b1 : (befs (acc ++ [befOf acc o.after.toList]) r).take acc.length = acc := by
      have := congrArg (List.take acc.length) a1
      rw [List.take_take, Nat.min_eq_left (by omega)] at this
      rw [this]; simp
    refine ⟨b1, by simp only [List.length_cons]; omega, fun j o' hj => ?_⟩
    cases j with
    | zero =>
      simp only [List.getElem?_cons_zero, Option.some.injEq] at hj
      subst hj
      rw [Nat.add_zero, b1]
      have : ((befs (acc ++ [befOf acc o.after.toList]) r).take (acc.length + 1)).getD acc.length 0 = (befs (acc ++ [befOf acc o.after.toList]) r).getD acc.length 0 := getD_take _ _ _ _ (by omega)
      rw [← this, a1, getD_append, if_neg (by omega)]; simp
    | succ j =>
      simp only [List.getElem?_cons_succ] at hj
      have := a3 j o' hj
      rwa [show acc.length + 1 + j = acc.length + (j + 1) by omega] at this
theorem edgesOK_spec : ∀ (ops : List Oper) (p : Nat), edgesOK p ops = true → ∀ (j : Nat) (o : Oper), ops[j]? = some o → ∀ e ∈ o.after, Region.binds .any e = true → e.on < p + j
  | [], p, _, j, o, h => by simp at h
  | o :: r, p, h, j, o', hj => by
    simp only [edgesOK, Bool.and_eq_true, List.all_eq_true] at h
    cases j with
    | zero =>
      simp only [List.getElem?_cons_zero, Option.some.injEq] at hj
      subst hj
      intro e he hb
      have := h.1 e (by simpa using he)
      simpa [hb] using this
    | succ j =>
      intro e he hb
      have := edgesOK_spec r (p + 1) h.2 j o' (by simpa using hj) e he hb
      omega
/-- in every order the one comes ahead of the other -/
def Before (bs : List Nat) (i j : Nat) : Prop := (bs.getD (max j i) 0).testBit (min j i) = true
structure Order (ops : List Oper) (l : List GI) (bs : List Nat) : Prop where
  bef : ∀ (j : Nat) (o : Oper), ops[j]? = some o → ∀ p, (bs.getD j 0).testBit p = true → ∃ e ∈ o.after, Region.binds .any e = true ∧ (p = e.on ∨ (bs.getD e.on 0).testBit p = true)
  edge : ∀ (j : Nat) (o : Oper), ops[j]? = some o → ∀ e ∈ o.after, Region.binds .any e = true → e.on < j
  reads : ∀ (j p : Nat) (oj op : Oper) (t : Nat), ops[j]? = some oj → ops[p]? = some op → op.dst = some t → t ∈ tmpsOf ops oj → p = j ∨ Before bs p j
  effs : ∀ (j i : Nat) (gj gi : GI), l[j]? = some gj → l[i]? = some gi → gj.i.calm = false → gi.i.free = false → (gi.i.maker = false ∨ gj.i.isApp = true) → i = j ∨ Before bs i j
  noM : ∀ g ∈ l, g.i.isCallM = false
theorem order_of {ops : List Oper} {l : List GI} (h : drawOK ops l = true) : Order ops l (befs [] ops) := by
  simp only [drawOK, Bool.and_eq_true, List.all_eq_true] at h
  obtain ⟨h1, h2, h3, h4⟩ := h
  obtain ⟨b1, b2, b3⟩ := befs_spec ops []
  simp only [List.length_nil, Nat.zero_add] at b2 b3
  refine ⟨fun j o hj p hp => ?_, fun j o hj e he hb => by simpa using edgesOK_spec ops 0 h4 j o hj e he hb, fun j p oj op t hj hp hd ht => ?_, fun j i gj gi hj hi hc hpu hmk => ?_, fun g hg => by simpa using h3 g hg⟩
  · rw [b3 j o hj] at hp
    obtain ⟨e, e1, e2, e3⟩ := befOf_spec _ _ _ hp
    refine ⟨e, by simpa using e1, e2, e3.imp id fun h => ?_⟩
    by_cases hlt : e.on < j
    · rwa [getD_take _ _ _ _ hlt] at h
    · simp only [List.getD, List.getElem?_take, hlt, if_false, Option.getD_none, Nat.zero_testBit] at h; cases h
  · have hjl : j < ops.length := (List.getElem?_eq_some_iff.1 hj).1
    have hpl : p < ops.length := (List.getElem?_eq_some_iff.1 hp).1
    simp only [readsOK, List.all_eq_true, List.mem_range] at h1
    have := h1 j hjl p hpl
    simp only [hj, hp, hd, Bool.or_eq_true, beq_iff_eq, Bool.not_eq_true', List.contains_eq_mem, decide_eq_false_iff_not] at this
    rcases this with (h | h) | h
    · exact .inl h
    · exact absurd ht h
    · exact .inr h
  · have hjl : j < l.length := (List.getElem?_eq_some_iff.1 hj).1
    have hil : i < l.length := (List.getElem?_eq_some_iff.1 hi).1
    simp only [effOK, List.all_eq_true, List.mem_range] at h2
    have := h2 j hjl i hil
    have hm : (gi.i.maker && !gj.i.isApp) = false := by rcases hmk with h | h <;> simp [h]
    simp only [hj, hi, hc, hpu, hm, Bool.false_or, Bool.or_eq_true, beq_iff_eq] at this
    exact this
end
end Go.Abs
end
section
namespace Go.Abs
variable [Glob]
section
variable {C : CC} {Γ : Ctx}
theorem filter_lt {p q : Nat → Bool} : ∀ (l : List Nat), (∀ a ∈ l, q a = true → p a = true) → (∃ a ∈ l, p a = true ∧ q a = false) → (l.filter q).length < (l.filter p).length
  | [], _, ⟨a, h, _⟩ => by cases h
  | b :: r, h1, ⟨a, h2, h3, h4⟩ => by
    have hle : ∀ (l : List Nat), (∀ a ∈ l, q a = true → p a = true) → (l.filter q).length ≤ (l.filter p).length := by
      intro l
      induction l with
      | nil => intro _; simp
      | cons b r ih =>
        intro h
        have := ih fun a ha => h a (.tail _ ha)
        have hb := h b (.head _)
        rw [List.filter_cons, List.filter_cons]
        cases hq : q b <;> cases hp : p b <;> simp_all <;> omega
    have hr := hle r fun a ha => h1 a (.tail _ ha)
    rw [List.filter_cons, List.filter_cons]
    cases h2 with
    | head => simp only [h3, h4, if_true]; simp; omega
    | tail _ h2 =>
      have ih := filter_lt r (fun a ha => h1 a (.tail _ ha)) ⟨a, h2, h3, h4⟩
      have hb := h1 b (.head _)
      cases hq : q b <;> cases hp : p b <;> simp_all <;> omega
def cnt (n : Nat) (listed : Array Bool) : Nat := ((List.range n).filter fun p => !listed.getD p false).length
theorem getD_set {listed : Array Bool} {i p : Nat} (h : i < listed.size) : (listed.setIfInBounds i true).getD p false = if p = i then true else listed.getD p false := by
  by_cases e : p = i
  · subst e; simp [h]
  · rw [if_neg e]; exact getD_set_ne false (Ne.symm e)
theorem cnt_set {n i : Nat} {listed : Array Bool} (hs : listed.size = n) (hi : i < n) (hl : listed.getD i false = false) : cnt n (listed.setIfInBounds i true) < cnt n listed := by
  refine filter_lt _ (fun a _ ha => ?_) ⟨i, by simpa using hi, by rw [hl]; rfl, by rw [getD_set (by omega), if_pos rfl]; rfl⟩
  rw [getD_set (by omega)] at ha
  split at ha
  · simp at ha
  · exact ha
theorem op_wrs {defs : List (Option Nat)} {o : Oper} {i : Ins} (hc : C.op defs o = some i) (h1 : i.calm = false) (h2 : i.isApp = false) (h3 : i.isCallM = false) :
    ∃ s, (∃ p ∈ o.op.operands.toList, C.src defs p = some s) ∧ (∀ (ρ : Src → Ent) (L : Nat), i.wr ρ L = locOf (ρ s).d) ∧ ∀ (ρ : Src → Ent) (m : List (Nat × Blk)), i.obl Γ ρ m → (ρ s).ok = true ∧ ((∃ l k i o, (ρ s).d = .ptr l k i o) ∨ ∃ l, (ρ s).d = .it l) := by
  cases ho : o.op with
  | store t p q =>
    simp only [CC.op, ho] at hc
    split at hc
    · rename_i a b ha hb
      split at hc
      · cases hc
      · simp only [Option.some.injEq] at hc
        subst hc
        refine ⟨a, ⟨p, by simp [Op.operands], ha⟩, fun _ _ => rfl, fun ρ m hob => ⟨hob.1, .inl ?_⟩⟩
        have := hob.2.2.2
        cases hd : (ρ a).d <;> simp only [hd] at this
        exact ⟨_, _, _, _, rfl⟩
    · cases hc
  | next it b =>
    cases b
    · simp [CC.op, ho] at hc
    · simp only [CC.op, ho, Option.map_eq_some_iff] at hc
      obtain ⟨s, hs, rfl⟩ := hc
      refine ⟨s, ⟨it, by simp [Op.operands], hs⟩, fun _ _ => rfl, fun ρ m hob => ⟨hob.1, .inr ?_⟩⟩
      have := hob.2
      cases hd : (ρ s).d <;> simp only [hd] at this
      exact ⟨_, rfl⟩
  | call c =>
    obtain ⟨callee, args, argTypes⟩ := c
    cases callee with
    | builtin bu =>
      cases bu with
      | len => simp only [CC.op, ho] at hc; (repeat' split at hc) <;> simp only [Option.some.injEq, reduceCtorEq] at hc <;> subst hc <;> simp [Ins.calm] at h1
      | append => simp only [CC.op, ho] at hc; (repeat' split at hc) <;> simp only [Option.some.injEq, reduceCtorEq] at hc <;> subst hc <;> simp [Ins.isApp] at h2
      | _ => simp [CC.op, ho] at hc
    | value f =>
      cases f with
      | func fid =>
        simp only [CC.op, ho] at hc
        split at hc
        · rename_i n ss k1 k2
          split at hc
          · simp only [Option.some.injEq] at hc; subst hc; simp [Ins.isCallM] at h3
          · split at hc
            · split at hc
              · rename_i r rest
                simp only [Option.some.injEq] at hc
                subst hc
                have hr : ∃ p ∈ args.toList, C.src defs p = some r := by
                  cases hal : args.toList with
                  | nil => rw [hal] at k2; simp [CC.srcs] at k2
                  | cons q qs =>
                    rw [hal] at k2
                    simp only [CC.srcs] at k2
                    split at k2
                    · rename_i e1 e2
                      simp only [Option.some.injEq, List.cons.injEq] at k2
                      obtain ⟨rfl, _⟩ := k2
                      exact ⟨q, by simp, e1⟩
                    · cases k2
                obtain ⟨p, hp1, hp2⟩ := hr
                refine ⟨r, ⟨p, by simp only [Op.operands, Call.operands]; simp at hp1 ⊢; exact .inr hp1, hp2⟩, fun _ _ => rfl, fun ρ m hob => ⟨hob.1, .inl ?_⟩⟩
                have := hob.2.2.2
                cases hd : (ρ r).d <;> simp only [hd] at this
                exact ⟨_, _, _, _, rfl⟩
              · cases hc
            · simp only [Option.some.injEq] at hc; subst hc; simp [Ins.calm] at h1
        · cases hc
      | tmp t => simp only [CC.op, ho] at hc; (repeat' split at hc) <;> simp only [Option.some.injEq, reduceCtorEq] at hc <;> subst hc <;> simp [Ins.calm] at h1
      | _ => simp [CC.op, ho] at hc
    | invoke r n => simp [CC.op, ho] at hc
  | makeFunc fn fst caps => cases fn <;> simp only [CC.op, ho] at hc <;> (repeat' split at hc) <;> (try simp only [Option.some.injEq, reduceCtorEq] at hc) <;> first
    | (subst hc; simp [Ins.calm] at h1)
    | exact hc.elim
  | _ =>
    simp only [CC.op, ho] at hc
    (try cases hc) <;> (repeat' split at hc) <;> (try simp only [Option.some.injEq, reduceCtorEq, Option.map_eq_some_iff] at hc) <;> first
      | (subst hc; simp [Ins.calm] at h1; done)
      | (obtain ⟨s, hs, rfl⟩ := hc; simp [Ins.calm] at h1; done)
      | exact hc.elim
      | cases hc
structure DInv (C : CC) (ops : Array Oper) (l : List GI) (bs : List Nat) (env : List Ent) (nx : Nat) (VS : List Ent) (M : Nat → List (Nat × Blk)) (x0 : X) (listed : Array Bool) (a : Act) (x : X) (f : Nat → Option Blk) (c : Nat) : Prop where
  mid : Mid C env (ops.toList.map (·.dst)) VS (fun p => listed.getD p false = true) a x
  step : Step x0 x
  sim : Sim C.ν x f
  size : listed.size = ops.size
  closed : ∀ j, listed.getD j false = true → ∀ p, (bs.getD j 0).testBit p = true → listed.getD p false = true
  β : ∀ l', nx ≤ l' → (∀ p, listed.getD p false = true → l' ≠ nx + p) → x.β l' = none
  nc : ∀ (p : Nat) (g : GI), l[p]? = some g → g.i.calm = false → (listed.getD p false = true ↔ p < c)
  mem : ∀ l', x.β l' ≠ none → f l' = look (M (max c (l' + 1 - nx))) l'
  wrβ : ∀ (q : Nat) (g : GI), l[q]? = some g → g.i.calm = false → g.i.isApp = false → listed.getD q false = true → ∀ l' ∈ g.i.wr (Src.ev env (VS.take q)) (nx + q), x.β l' ≠ none
section
variable {ops : Array Oper} {l : List GI} {bs : List Nat} {env : List Ent} {nx : Nat} {VS : List Ent} {M : Nat → List (Nat × Blk)} {x0 : X} {listed : Array Bool} {a : Act} {x : X} {f : Nat → Option Blk} {c : Nat}
theorem listed_lt (hs : listed.size = ops.size) {p : Nat} (h : listed.getD p false = true) : p < ops.size := by
  rcases Nat.lt_or_ge p listed.size with h1 | h1
  · omega
  · simp [Array.getD, Nat.not_lt.2 h1] at h
theorem DInv.fin (h : DInv C ops l bs env nx VS M x0 listed a x f c) (hsp : Spec C ops.toList l) (tr : Trace Γ l env nx VS M) (hall : ∀ p, p < ops.size → listed.getD p false = true) :
    Mid C env (ops.toList.map (·.dst)) VS (· < ops.size) a x ∧ Step x0 x ∧ Sim C.ν x (look (M l.length)) ∧ Fresh ⟨nx + l.length, M l.length⟩ x := by
  have hlen : l.length = ops.size := by simpa using hsp.len
  have hβ : ∀ l', nx + l.length ≤ l' → x.β l' = none := fun l' hl' => h.β l' (by omega) fun p hp => by have := listed_lt h.size hp; omega
  refine ⟨h.mid.iff fun p => ⟨fun hp => hall p hp, fun hp => listed_lt h.size hp⟩, h.step, h.sim.less fun l' => ?_, hβ, fun l' hl' => tr.fresh _ _ hl'⟩
  by_cases hb : x.β l' = none
  · exact .inr (.inr hb)
  · left
    rw [h.mem l' hb]
    have hlt : l' < nx + l.length := by
      rcases Nat.lt_or_ge l' (nx + l.length) with h1 | h1
      · exact h1
      · exact absurd (hβ l' h1) hb
    refine tr.same fun q g h1 h2 hg hw => ?_
    have hq : q < l.length := (List.getElem?_eq_some_iff.1 hg).1
    cases hc : g.i.calm with
    | true =>
      have := calm_wr hc hw
      omega
    | false =>
      have := (h.nc q g hg hc).1 (hall q (by omega))
      omega
theorem DInv.all (ho : Order ops.toList l bs) (hs : listed.size = ops.size) (hr : Region.ready .any ops listed = []) : ∀ p, p < ops.size → listed.getD p false = true := by
  intro p
  induction p using Nat.strongRecOn with
  | _ p ih =>
    intro hp
    cases hd : listed.getD p false with
    | true => rfl
    | false =>
      exfalso
      have hm : p ∈ Region.ready .any ops listed := by
        rw [mem_ready]
        refine ⟨?_, ops[p], by simp [hp], fun e he hb => ?_⟩
        · have : p < listed.size := by omega
          simp only [Array.getD, this, dif_pos] at hd ⊢; exact hd
        · have := ho.edge p ops[p] (by simp [hp]) e he hb
          exact ih e.on this (by omega)
      rw [hr] at hm; cases hm
theorem before_of (ho : Order ops.toList l bs) (h : DInv C ops l bs env nx VS M x0 listed a x f c) {i : Nat} {o : Oper} (hi : ops[i]? = some o) (hni : listed.getD i false = false)
    (hed : ∀ e ∈ o.after, Region.binds .any e = true → listed.getD e.on false = true) {p : Nat} (hb : Before bs p i) (hne : p ≠ i) : (p < i → listed.getD p false = true) ∧ (i ≤ p → ¬ listed.getD p false = true) := by
  unfold Before at hb
  refine ⟨fun hlt => ?_, fun hle hp => ?_⟩
  · rw [Nat.max_eq_left (by omega), Nat.min_eq_right (by omega)] at hb
    obtain ⟨e, e1, e2, e3⟩ := ho.bef i o (by simpa using hi) p hb
    rcases e3 with rfl | e3
    · exact hed e e1 e2
    · exact h.closed _ (hed e e1 e2) p e3
  · rw [Nat.max_eq_right (by omega), Nat.min_eq_left (by omega)] at hb
    have := h.closed p hp i hb
    rw [hni] at this; cases this
theorem draw_run (hsp : Spec C ops.toList l) (ho : Order ops.toList l bs) (hΓ : Ok C.P C.ν C.eff Γ) (tr : Trace Γ l env nx VS M) {Q : Exit → Act → World → Prop}
    (hK : ∀ a' x', Mid C env (ops.toList.map (·.dst)) VS (· < ops.size) a' x' → Step x0 x' → Sim C.ν x' (look (M l.length)) → Fresh ⟨nx + l.length, M l.length⟩ x' → Q .normal a' x'.w) :
    ∀ (fuel : Nat) (listed : Array Bool) (a : Act) (x : X) (f : Nat → Option Blk) (c : Nat), DInv C ops l bs env nx VS M x0 listed a x f c → cnt ops.size listed ≤ fuel → wpAny C.P .any ops Q fuel listed a x.w := by
  intro fuel
  have hlen : l.length = ops.size := by simpa using hsp.len
  induction fuel with
  | zero =>
    intro listed a x f c h hc
    have hall : ∀ p, p < ops.size → listed.getD p false = true := by
      intro p hp
      have h0 : (List.range ops.size).filter (fun p => !listed.getD p false) = [] := List.eq_nil_of_length_eq_zero (Nat.le_zero.1 hc)
      rw [List.filter_eq_nil_iff] at h0
      simpa using h0 p (by simpa using hp)
    refine ⟨?_, ?_⟩
    · rw [List.eq_nil_iff_forall_not_mem]
      intro j hj
      obtain ⟨h1, o, h2, _⟩ := mem_ready.1 hj
      have hjl : j < ops.size := (Array.getElem?_eq_some_iff.1 h2).1
      have := hall j hjl
      have hjs : j < listed.size := by rw [h.size]; exact hjl
      simp only [Array.getD, hjs, dif_pos] at h1 this
      rw [this] at h1; cases h1
    · obtain ⟨q1, q2, q3, q4⟩ := h.fin hsp tr hall
      exact hK a x q1 q2 q3 q4
  | succ fuel ih =>
    intro listed a x f c h hc
    refine ⟨fun hr => ?_, fun i hi => ?_⟩
    · obtain ⟨q1, q2, q3, q4⟩ := h.fin hsp tr (DInv.all ho h.size hr)
      exact hK a x q1 q2 q3 q4
    · obtain ⟨h1, o, h2, hed⟩ := mem_ready.1 hi
      have hil : i < ops.size := (Array.getElem?_eq_some_iff.1 h2).1
      have his : i < listed.size := by rw [h.size]; exact hil
      have hni : listed.getD i false = false := by simp only [Array.getD, his, dif_pos] at h1 ⊢; exact h1
      have ho' : ops.toList[i]? = some o := by simpa using h2
      obtain ⟨⟨ins, gd⟩, hg1, hg2, hg3⟩ := hsp.op i o ho'
      simp only at hg2 hg3
      have hdst : (ops.toList.map (·.dst))[i]? = some o.dst := by rw [List.getElem?_map, ho', Option.map_some]
      have hcm : ins.isCallM = false := ho.noM _ (List.mem_of_getElem? hg1)
      have hreads : ∀ t p, t ∈ tmpsOf ops.toList o → (ops.toList.map (·.dst))[p]? = some (some t) → (p < i → listed.getD p false = true) ∧ (i ≤ p → ¬ listed.getD p false = true) := by
        intro t p ht hp
        rw [List.getElem?_map, Option.map_eq_some_iff] at hp
        obtain ⟨op, hp1, hp2⟩ := hp
        rcases ho.reads i p o op t ho' hp1 hp2 ht with rfl | hb
        · exact ⟨fun h => by omega, fun _ => by rw [hni]; simp⟩
        · by_cases hpi : p = i
          · subst hpi; exact ⟨fun h => by omega, fun _ => by rw [hni]; simp⟩
          · exact before_of ho h h2 hni hed hb hpi
      have hρ : Rho C ((ops.toList.map (·.dst)).take i) (Src.ev env (VS.take i)) a.eval x o.op.operands.toList :=
        h.mid.rho fun t p ht hp => hreads t p (List.mem_append_left _ (List.mem_filterMap.2 ⟨.tmp t, ht, rfl⟩)) hp
      have hcst : ∀ d, Src.ev env (VS.take i) (.c d) = ⟨true, d⟩ := fun _ => rfl
      have hgk := tr.gok i _ hg1
      obtain ⟨hent1, hent2⟩ := tr.ent i _ hg1
      have hMs := tr.step i _ hg1
      simp only at hgk hent1 hent2 hMs
      have hwant : Region.wanted o (yielded ops a.tmps) = flag (VS.take i) gd := by
        refine wanted_flag (g := ⟨ins, gd⟩) h.mid hg3 (fun j w hg hji => ?_) (gok_f hgk)

        simp only [hg, CC.guard] at hg3
        split at hg3
        · rename_i t hj
          rw [List.getElem?_take, if_pos hji] at hj
          refine (hreads t j (List.mem_append_right _ ?_) hj).1 hji
          rw [List.getElem?_map, Option.map_eq_some_iff] at hj
          obtain ⟨oj, hj1, hj2⟩ := hj
          simp [hg, hj1, hj2]
        · cases hg3
      have hput : ∀ (v : Value) (x' : X), Le x x' → ((VS.getD i .un).ok = true → RD C.ν x' v (VS.getD i .un).d) → ((VS.getD i .un).ok = false → v = undef) →
          Mid C env (ops.toList.map (·.dst)) VS (fun p => (listed.setIfInBounds i true).getD p false = true) (a.put o.dst v) x' := by
        intro v x' hle e1 e2
        refine h.mid.put (i := i) hle hdst (fun t ht => ⟨(hsp.dst i o t ho' ht).1, fun p hp e' => hp (hsp.distinct (by rw [hdst, ht]) e')⟩) e1 e2 (fun p => ?_)
        rw [getD_set his]
        by_cases e : p = i
        · simp [e]
        · simp [e]
      have hclosed : ∀ j, (listed.setIfInBounds i true).getD j false = true → ∀ p, (bs.getD j 0).testBit p = true → (listed.setIfInBounds i true).getD p false = true := by
        intro j hj p hp
        rw [getD_set his] at hj ⊢
        by_cases e : p = i
        · rw [if_pos e]
        · rw [if_neg e]
          by_cases ej : j = i
          · subst ej
            obtain ⟨e', e1, e2, e3⟩ := ho.bef j o ho' p hp
            rcases e3 with rfl | e3
            · exact hed e' e1 e2
            · exact h.closed _ (hed e' e1 e2) p e3
          · rw [if_neg ej] at hj
            exact h.closed j hj p hp
      have hcnt : cnt ops.size (listed.setIfInBounds i true) ≤ fuel := by have := cnt_set h.size hil hni; omega
      have hsz : (listed.setIfInBounds i true).size = ops.size := by simp [h.size]
      have hL : x.β (nx + i) = none := h.β _ (by omega) fun p hp e => by
        have : p = i := by omega
        subst this; rw [hni] at hp; cases hp
      have hset : ∀ p, p ≠ i → ((listed.setIfInBounds i true).getD p false = true ↔ listed.getD p false = true) := fun p hp => by rw [getD_set his, if_neg hp]
      unfold wpOp
      simp only [h2, hwant]
      cases hfg : flag (VS.take i) gd with
      | false =>
        rw [if_neg (by simp)]
        have hcalm : ins.calm = true := by
          cases gd with
          | none => simp [flag] at hfg
          | some jw => obtain ⟨j, w⟩ := jw; exact hgk.1
        refine ih _ _ x f c ⟨hput undef x (Le.refl x) (fun e => by rw [hent1, hfg] at e; cases e) (fun _ => rfl), h.step, h.sim, hsz, hclosed, fun l' hl' hp => h.β l' hl' fun p hp' => ?_, fun p g hp hpc => ?_, h.mem, fun p g hp hpc hpa hpl l' hl' => ?_⟩ hcnt
        · refine hp p ?_
          rw [getD_set his]; split
          · rfl
          · exact hp'
        · by_cases e : p = i
          · subst e; rw [hg1] at hp; obtain rfl := Option.some.inj hp; rw [hcalm] at hpc; cases hpc
          · rw [hset p e]; exact h.nc p g hp hpc
        · by_cases e : p = i
          · subst e; rw [hg1] at hp; obtain rfl := Option.some.inj hp; rw [hcalm] at hpc; cases hpc
          · exact h.wrβ p g hp hpc hpa ((hset p e).1 hpl) l' hl'
      | true =>
        rw [if_pos rfl]
        left
        have hob := tr.obl i _ hg1 hfg
        simp only at hob

        have hf1 : Sim C.ν x (fun l' => if x.β l' = none then look (M i) l' else f l') := h.sim.less fun l' => by
          by_cases hb : x.β l' = none
          · exact .inr (.inr hb)
          · left; simp [hb]

        have hnear : ins.free = false → ∀ q g, l[q]? = some g → g.i.calm = false → (ins.maker = false ∨ g.i.isApp = true) → q ≠ i → (q < i ↔ q < c) := by
          intro hpu q g hq hqc hmk hqi
          rcases ho.effs q i g ⟨ins, gd⟩ hq hg1 hqc hpu hmk with e | hb
          · exact absurd e.symm hqi
          · have hb' : Before bs q i := by unfold Before at hb ⊢; rwa [Nat.max_comm, Nat.min_comm]
            obtain ⟨b1, b2⟩ := before_of ho h h2 hni hed hb' hqi
            have hnc := h.nc q g hq hqc
            constructor
            · intro hlt; exact hnc.1 (b1 hlt)
            · intro hlt
              rcases Nat.lt_or_ge q i with h3 | h3
              · exact h3
              · exact absurd (hnc.2 hlt) (b2 h3)
        have hag : agr (fun l' => if x.β l' = none then look (M i) l' else f l') (M i) (ins.tch (Src.ev env (VS.take i))) := by
          have key : ins.free = false → ins.maker = false → ∀ l', look (M i) l' ≠ none → (if x.β l' = none then look (M i) l' else f l') = look (M i) l' := by
            intro hpu hmk l' hl'
            by_cases hb : x.β l' = none
            · rw [if_pos hb]
            · rw [if_neg hb, h.mem l' hb]
              have hlt := tr.fresh i l' hl'
              refine tr.same fun q g q1 q2 hq hw => ?_
              by_cases hqi : q = i
              · subst hqi
                cases hqc : g.i.calm with
                | true => have := calm_wr hqc hw; omega
                | false =>
                  have h5 := h.nc q g hq hqc
                  rw [hni] at h5
                  have : ¬ q < c := fun e => by cases h5.2 e
                  omega
              · cases hqc : g.i.calm with
                | true => have := calm_wr hqc hw; omega
                | false => have := hnear hpu q g hq hqc (.inl hmk) hqi; omega
          cases hpu : ins.free with
          | true => rw [free_tch hpu hob]; intro l' hl'; cases hl'
          | false =>
            cases hmk : ins.maker with
            | true => rw [maker_tch hmk]; intro l' hl'; cases hl'
            | false =>
              cases htc : ins.tch (Src.ev env (VS.take i)) with
              | none => exact key hpu hmk
              | some ls => exact fun l' hl' => key hpu hmk l' (obl_tch hob htc hl')
        refine (op_anyX (L := nx + i) hg2 hcm hΓ hρ hcst hob hf1 hag hL (by
          show (if x.β (nx + i) = none then look (M i) (nx + i) else f (nx + i)) = none
          rw [if_pos hL]
          cases hx : look (M i) (nx + i) with
          | none => rfl
          | some b => have := tr.fresh i (nx + i) (by rw [hx]; simp); omega)).wp (fun v x' hG => ?_)
        obtain ⟨g1, g2, g3, g4⟩ := hG
        rw [← hMs] at g3
        refine ih _ _ x' _ (if ins.free = true ∨ ins.maker = true then c else i + 1) ⟨hput v x' g1.le (fun _ => by rw [← hent2 hfg]; exact g2) (fun e => by rw [hent1, hfg] at e; cases e), h.step.trans g1, g3, hsz, hclosed, fun l' hl' hp => ?_, fun p g hp hpc => ?_, fun l' hl' => ?_, fun p g hp hpc hpa hpl l' hl' => ?_⟩ hcnt
        · have hne : l' ≠ nx + i := hp i (by rw [getD_set his, if_pos rfl])
          rw [g4 l' hne]
          refine h.β l' hl' fun p hp' => hp p ?_
          rw [getD_set his]; split
          · rfl
          · exact hp'
        · by_cases e : p = i
          · subst e
            rw [hg1] at hp
            obtain rfl := Option.some.inj hp
            have hpf : ¬ (ins.free = true ∨ ins.maker = true) := by
              rintro (hpu | hpu)
              · have := free_calm hpu; simp only at hpc; rw [this] at hpc; cases hpc
              · have := maker_calm hpu; simp only at hpc; rw [this] at hpc; cases hpc
            rw [if_neg hpf, getD_set his, if_pos rfl]
            simp
          · rw [hset p e]
            by_cases hpu : ins.free = true ∨ ins.maker = true
            · rw [if_pos hpu]; exact h.nc p g hp hpc
            · rw [if_neg hpu]
              have hf0 : ins.free = false := by cases hh : ins.free with | false => rfl | true => exact absurd (.inl hh) hpu
              have hm0 : ins.maker = false := by cases hh : ins.maker with | false => rfl | true => exact absurd (.inr hh) hpu
              have h3 := hnear hf0 p g hp hpc (.inl hm0) e
              have h4 := h.nc p g hp hpc
              constructor
              · intro h5; have := h4.1 h5; omega
              · intro h5; exact h4.2 (h3.1 (by omega))
        · by_cases hlL : l' = nx + i
          ·
            subst hlL
            have hMi : look (M i) (nx + i) = none := by
              cases hx : look (M i) (nx + i) with
              | none => rfl
              | some b => have := tr.fresh i (nx + i) (by rw [hx]; simp); omega
            cases hpu : ins.free with
            | true =>
              rw [if_pos (.inl rfl), free_wr hpu]
              rw [show aft (fun l' => if x.β l' = none then look (M i) l' else f l') [] (M (i + 1)) = (fun l' => if x.β l' = none then look (M i) l' else f l') from aft_nil]
              simp only [if_pos hL]
              have hM1 : M (i + 1) = M i := by rw [hMs]; exact free_eff hpu
              have : ∀ n, look (M (i + 1 + n)) (nx + i) = none := by
                intro n
                induction n with
                | zero => rw [Nat.add_zero, hM1]; exact hMi
                | succ n ihn =>
                  rw [← Nat.add_assoc]
                  cases hg : l[i + 1 + n]? with
                  | none => rw [tr.stop _ hg]; exact ihn
                  | some g =>
                    cases hx : look (M (i + 1 + n + 1)) (nx + i) with
                    | none => rfl
                    | some b =>
                      rw [tr.step _ g hg] at hx
                      have hco : g.i.calm = true ∨ g.i.obl Γ (Src.ev env (VS.take (i + 1 + n))) (M (i + 1 + n)) := (tr.calm_or hg).imp id (·.2)
                      rcases eff_new hco (l := nx + i) (by rw [hx]; simp) with e | e
                      · exact absurd ihn e
                      · omega
              have := this (max c (nx + i + 1 - nx) - (i + 1))
              rw [show i + 1 + (max c (nx + i + 1 - nx) - (i + 1)) = max c (nx + i + 1 - nx) by omega] at this
              rw [this]; exact hMi
            | false =>
              have e0 : aft (fun l' => if x.β l' = none then look (M i) l' else f l') (ins.wr (Src.ev env (VS.take i)) (nx + i)) (M (i + 1)) (nx + i) = look (M (i + 1)) (nx + i) := by
                simp only [aft]
                split
                · rfl
                · rename_i hw
                  rw [hMs, eff_wr hw]
              rw [e0]
              cases hmk : ins.maker with
              | false => rw [if_neg (by simp), show max (i + 1) (nx + i + 1 - nx) = i + 1 by omega]
              | true =>
                rw [if_pos (.inr rfl)]
                refine tr.same fun q g q1 q2 hq hqw => ?_
                cases hqc : g.i.calm with
                | true => have := calm_wr hqc hqw; omega
                | false =>
                  cases hqa : g.i.isApp with
                  | true => have := hnear hpu q g hq hqc (.inr hqa) (by omega); omega
                  | false => exact h.wrβ q g hq hqc hqa ((h.nc q g hq hqc).2 (by omega)) _ hqw hL
          · rw [g4 l' hlL] at hl'
            cases hpu : ins.free with
            | true =>
              rw [if_pos (.inl rfl), free_wr hpu]
              rw [show aft (fun l' => if x.β l' = none then look (M i) l' else f l') [] (M (i + 1)) = (fun l' => if x.β l' = none then look (M i) l' else f l') from aft_nil]
              simp only [if_neg hl']
              exact h.mem l' hl'
            | false =>
              cases hmk : ins.maker with
              | true =>
                rw [if_pos (.inr rfl)]
                have hw : l' ∉ ins.wr (Src.ev env (VS.take i)) (nx + i) := fun hw => hlL (calm_wr (maker_calm hmk) hw)
                simp only [aft, if_neg hw, if_neg hl']
                exact h.mem l' hl'
              | false =>
              rw [if_neg (by simp)]
              simp only [aft]
              split
              · rename_i hw
                rcases obl_wr hob hw with e | e
                · exact absurd e hlL
                · have := tr.fresh i l' e
                  rw [show max (i + 1) (l' + 1 - nx) = i + 1 by omega]
              · rename_i hw
                rw [h.mem l' hl']
                refine tr.same fun q g q1 q2 hq hqw => ?_
                by_cases hqi : q = i
                · subst hqi
                  rw [hg1] at hq
                  obtain rfl := Option.some.inj hq
                  exact hw hqw
                · cases hqc : g.i.calm with
                  | true => have := calm_wr hqc hqw; omega
                  | false => have := hnear hpu q g hq hqc (.inl hmk) hqi; omega
        · by_cases e : p = i
          · subst e
            rw [hg1] at hp
            obtain rfl := Option.some.inj hp
            rcases hg2 with hg2 | ⟨n', ag', s', rfl, _⟩ | ⟨k', y', rfl, _⟩ | ⟨k', z', n', ps', rfl, _⟩
            · obtain ⟨s, ⟨q, hq1, hq2⟩, hs2, hs3⟩ := op_wrs (Γ := Γ) hg2 hpc hpa hcm
              rw [hs2] at hl'
              obtain ⟨hok, hd⟩ := hs3 _ _ hob
              have hrd := hρ q hq1 s hq2 hok
              generalize a.eval q = vq at hrd
              rcases hd with ⟨l1, k1, i1, o1, hd⟩ | ⟨l1, hd⟩
              · rw [hd] at hrd hl'
                simp only [locOf, List.mem_singleton] at hl'
                subst hl'
                cases hrd with
                | ptr _ _ _ _ b base tot at_ hβ hat => rw [g1.β _ _ hβ]; simp
              · rw [hd] at hrd hl'
                simp only [locOf, List.mem_singleton] at hl'
                subst hl'
                cases hrd with
                | it _ b base tot hβ => rw [g1.β _ _ hβ]; simp
            · cases hpc
            · cases hpc
            · cases hpc
          · have h7 := h.wrβ p g hp hpc hpa ((hset p e).1 hpl) l' hl'
            cases hb : x.β l' with
            | none => exact absurd hb h7
            | some y => rw [g1.β _ _ hb]; simp
end
end
end Go.Abs
end
