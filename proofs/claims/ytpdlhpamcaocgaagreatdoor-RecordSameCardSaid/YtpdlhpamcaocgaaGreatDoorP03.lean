/- A part of the proofs of the statements: AbsG, AbsH, AbsI, AbsJ, AbsK, AbsL, AbsE. -/
import Derived.Orders
import Derived.Test.YtpdlhpamcaocgaaGreatDoorP02
set_option linter.all false
section
namespace Go.Abs
variable [cd]
section
variable {ν : List (Nat × Nat)} {x : X} {f : Nat → Option bm} {m : List (Nat × bm)}
def X.jc (x : X) (f : Nat → Option bm) : X := ⟨x.w, fun b => x.I b ∨ ∃ l p, x.β l = some p ∧ p.1 = b ∧ f l ≠ none, x.β⟩
theorem kY (x : X) (f : Nat → Option bm) : Le x (x.jc f) := ⟨fun _ h => .inl h, fun _ _ => rfl, fun _ _ h => h⟩
theorem D.mS (ds : List D) : (D.agg ds).aL = aH ds := by simp [D.aL]
theorem rA {l k n : Nat} (hs : dm ν x f) (hag : ∀ l, look m l ≠ none → f l = look m l) (hb : dz m l k n) {b base tot : Nat} (hβ : x.β l = some (b, base, tot)) :
  f l = some (.buf k (aE m l)) ∧ n ≤ (aE m l).length ∧ ¬ x.I b ∧ j7 ν x b base tot (.buf k (aE m l)) := by
 have hne : look m l ≠ none := by
  intro h; simp [dz, h] at hb
 obtain ⟨g1, g2, _⟩ := nJ hs (hag l hne) hb
 exact ⟨g1, g2, hs.own l _ b base tot g1 hβ⟩
theorem wP {k : Nat} {es : List D} {cs : List Sh} {g : Nat → Nat → Value} (hk0 : 0 < k)
  (hV : ∀ (e : D) (c : Nat → Value), e.cells.length = k → (∀ j, j < k → RD ν x (c j) (e.cells.getD j .any)) → ey m cs e →
    (fL m cs e).cells.length = k ∧ (fL m cs e).aL = true ∧ ∀ j, j < k → RD ν (x.jc f) (c j) ((fL m cs e).cells.getD j .any))
  (hes : ∀ i, i < es.length → (es.getD i .any).cells.length = k ∧ ∀ j, j < k → RD ν x (g i j) ((es.getD i .any).cells.getD j .any))
  (ho : ∀ e ∈ es, ey m cs e) (i : Nat) (hi : i < es.length) :
  ((es.map (fL m cs)).getD i .any).cells.length = k ∧ ((es.map (fL m cs)).getD i .any).aL = true ∧ ∀ j, j < k → RD ν (x.jc f) (g i j) (((es.map (fL m cs)).getD i .any).cells.getD j .any) := by
 have e1 : (es.map (fL m cs)).getD i .any = fL m cs (es.getD i .any) := by simp [List.getD, hi]
 rw [e1]
 exact hV _ (g i) (hes i hi).1 (hes i hi).2 (ho _ (by rw [jE _ _ _ hi]; exact List.getElem_mem _))
mutual
theorem nY (hs : dm ν x f) (hag : ∀ l, look m l ≠ none → f l = look m l) : ∀ (s : Sh) (v : Value) (d : D), RD ν x v d → hZ m s d →
  RD ν (x.jc f) v (kA m s d) ∧ (kA m s d).aL = true ∧ (d.cells.length = 1 → d.isAgg = false → (kA m s d).cells = [kA m s d])
 | .a, v, d, h, ho => by
  simp only [hZ] at ho
  have hm : RD ν (x.jc f) v d := h.mono (kY x f)
  cases d <;> simp only [kA] <;> first
   | exact ⟨hm, ho, fun h1 h2 => by simp_all [D.cells, D.isAgg]⟩
   | skip
  cases h
  exact ⟨.sl none 0 0 0 0 0 [] (fun _ _ => undef) rfl (.inl rfl) (Nat.le_refl _) (by simp [maxLen]) (fun _ h => by omega) (fun _ h => by omega) (fun _ _ h => by omega) (fun _ _ h => by omega) (fun _ _ h => by omega), rfl, fun _ _ => rfl⟩
 | .sl k cs, v, d, h, ho => by
  have hm : RD ν (x.jc f) v d := h.mono (kY x f)
  cases d <;> simp only [kA] <;> simp only [hZ] at ho <;> first
   | exact ⟨hm, ho, fun h1 h2 => by simp_all [D.cells, D.isAgg]⟩
   | skip
  ·cases h
   exact ⟨.sl none 0 0 0 0 k [] (fun _ _ => undef) rfl (.inl rfl) (Nat.le_refl _) (by simp [maxLen]) (fun _ h => by simp at h) (fun _ h => by simp at h) (fun _ _ h => by simp at h) (fun _ _ h => by simp at h) (fun _ _ h => by simp at h), rfl, fun _ _ => rfl⟩
  ·rename_i l k' i c
   obtain ⟨hb, hel⟩ := ho
   cases h with
   | own0 =>
    simp only [List.take_zero, List.map_nil]
    exact ⟨.sl none 0 0 0 0 k' [] (fun _ _ => undef) rfl (.inl rfl) (Nat.le_refl _) (by simp [maxLen]) (fun _ h => by simp at h) (fun _ h => by simp at h) (fun _ _ h => by simp at h) (fun _ _ h => by simp at h) (fun _ _ h => by simp at h), rfl, fun _ _ => rfl⟩
   | own _ _ _ _ b base tot cap a hβ ha hcap hmx ht =>
    obtain ⟨g1, g2, hnI, hk0, ht', cc, T, fr, q1, q2, q3, q4⟩ := rA hs hag hb hβ
    have hlen : (((aE m l).drop i).take c).length = c := eH _ _ _ g2
    have hgt : ∀ j, j < c → (((aE m l).drop i).take c).getD j .any = (aE m l).getD (i + j) .any := fun j hj => cR _ _ _ _ _ hj
    have hrow := wP (f := f) (k := k') (cs := cs) (es := ((aE m l).drop i).take c) (g := fun i' j => cc.getD (base + (i + i') * k' + j) undef) hk0 (sr hs hag cs)
     (fun i' hi' => by
       rw [hlen] at hi'
       rw [hgt i' hi']
       exact ⟨(q4 (i + i') (by omega)).1, fun j hj => ((q4 (i + i') (by omega)).2 j hj).2⟩) hel
    refine ⟨.sl (some a) b (base + i * k') c cap k' _ (fun i' j => cc.getD (base + (i + i') * k' + j) undef) (by rw [List.length_map, hlen]) ?_ hcap hmx (fun i' hi' => (hrow i' (by omega)).1) (fun i' hi' => (hrow i' (by omega)).2.1) (fun i' j hi' hj => ?_) (fun i' j hi' hj => ?_) (fun i' j hi' hj => (hrow i' (by omega)).2.2 j hj), rfl, fun _ _ => rfl⟩
    ·by_cases hc0 : c = 0
     ·left
      exact List.eq_nil_of_length_eq_zero (by simp [hlen, hc0])
     ·right
      exact ⟨by rw [ha (by omega)], .inr ⟨l, _, hβ, rfl, by rw [g1]; simp⟩⟩
    ·have h1 := eO (tot := tot) (show i + i' < tot by omega) hj
     show x.w.cell? _ = _
     rw [← cell_of_heap q1 (by omega : base + (i + i') * k' + j < cc.size)]
     congr 2; rw [Nat.add_mul]; omega
    ·exact ((q4 (i + i') (by omega)).2 j hj).1
 | .pt cs, v, d, h, ho => by
  have hm : RD ν (x.jc f) v d := h.mono (kY x f)
  cases d <;> simp only [kA] <;> simp only [hZ] at ho <;> first
   | exact ⟨hm, ho, fun h1 h2 => by simp_all [D.cells, D.isAgg]⟩
   | skip
  rename_i l k' i o
  obtain ⟨hb, hel⟩ := ho
  cases h with
  | ptr _ _ _ _ b base tot at_ hβ hat =>
   obtain ⟨g1, g2, hnI, hk0, ht', cc, T, fr, q1, q2, q3, q4⟩ := rA hs hag hb hβ
   have hrow := wP (f := f) (k := k') (cs := cs) (es := aE m l) (g := fun i' j => cc.getD (base + i' * k' + j) undef) hk0 (sr hs hag cs)
    (fun i' hi' => ⟨(q4 i' hi').1, fun j hj => ((q4 i' hi').2 j hj).2⟩) hel
   refine ⟨.ref b base k' i o at_ _ (fun i' j => cc.getD (base + i' * k' + j) undef) (.inr ⟨l, _, hβ, rfl, by rw [g1]; simp⟩) hat (fun i' hi' => (hrow i' (by simpa using hi')).1) (fun i' hi' => (hrow i' (by simpa using hi')).2.1)
    (fun i' j hi' hj => ?_) (fun i' j hi' hj => ((q4 i' (by simpa using hi')).2 j hj).1) (fun i' j hi' hj => (hrow i' (by simpa using hi')).2.2 j hj), rfl, fun _ _ => rfl⟩
   have h1 := eO (tot := tot) (show i' < tot by simp at hi'; omega) hj
   exact cell_of_heap q1 (by omega)
theorem sr (hs : dm ν x f) (hag : ∀ l, look m l ≠ none → f l = look m l) : ∀ (cs : List Sh) {k : Nat} (e : D) (c : Nat → Value), e.cells.length = k → (∀ j, j < k → RD ν x (c j) (e.cells.getD j .any)) → ey m cs e →
  (fL m cs e).cells.length = k ∧ (fL m cs e).aL = true ∧ ∀ j, j < k → RD ν (x.jc f) (c j) ((fL m cs e).cells.getD j .any)
 | [], k, e, c, hk, hc, ho => by
  simp only [fL]
  simp only [ey] at ho
  exact ⟨hk, ho, fun j hj => (hc j hj).mono (kY x f)⟩
 | s :: r, k, e, c, hk, hc, ho => by
  cases e <;> simp only [fL] <;> simp only [ey] at ho <;> try
   (obtain ⟨h1, h2, h3⟩ := nY hs hag s (c 0) _ (by simp only [D.cells, List.length_cons, List.length_nil] at hk; exact hc 0 (by omega)) ho
    simp only [D.cells, List.length_cons, List.length_nil] at hk
    rw [h3 rfl rfl]
    subst hk
    exact ⟨rfl, h2, fun j hj => by obtain rfl : j = 0 := by omega
                                   exact h1⟩)
  ·simp only [D.cells, List.length_nil] at hk
   subst hk
   cases s <;> simp only [kA] <;> exact ⟨rfl, rfl, fun j hj => by omega⟩
  ·rename_i ds
   obtain ⟨a1, a2, a3⟩ := nZ hs hag (s :: r) ds c (fun j hj => hc j (by simpa [D.cells] using hk ▸ hj)) ho
   simp only [D.cells] at hk ⊢
   exact ⟨a1.trans hk, by rw [D.mS]; exact a2, fun j hj => a3 j (by omega)⟩
  ·simp only [D.cells, List.length_nil] at hk
   subst hk
   cases s <;> simp only [kA, hZ] at ho ⊢ <;> exact ⟨rfl, ho, fun j hj => by omega⟩
theorem nZ (hs : dm ν x f) (hag : ∀ l, look m l ≠ none → f l = look m l) : ∀ (cs : List Sh) (ds : List D) (c : Nat → Value), (∀ j, j < ds.length → RD ν x (c j) (ds.getD j .any)) → iB m cs ds →
  (kB m cs ds).length = ds.length ∧ aH (kB m cs ds) = true ∧ ∀ j, j < ds.length → RD ν (x.jc f) (c j) ((kB m cs ds).getD j .any)
 | [], ds, c, hc, ho => by
  simp only [iB] at ho
  exact ⟨by simp [kB], by simpa [kB] using ho, fun j hj => by simpa only [kB] using (hc j hj).mono (kY x f)⟩
 | s :: r, [], c, hc, ho => by
  exact ⟨by simp [kB], by simp [kB, aH], fun j hj => by simp at hj⟩
 | s :: r, d :: ds, c, hc, ho => by
  simp only [kB]
  simp only [iB] at ho
  obtain ⟨h1, h2, _⟩ := nY hs hag s (c 0) d (by simpa using hc 0 (by simp)) ho.1
  obtain ⟨a1, a2, a3⟩ := nZ hs hag r ds (fun j => c (j + 1)) (fun j hj => by simpa using hc (j + 1) (by simp; omega)) ho.2
  refine ⟨by simp [a1], by simp [aH, h2, a2], fun j hj => ?_⟩
  cases j with
  | zero => simpa using h1
  | succ j => simpa using a3 j (by simpa using hj)
end
theorem n0 (hs : dm ν x f) (hag : ∀ l, look m l ≠ none → f l = look m l) (sh : List Sh) (v : Value) (d : D) (h : RD ν x v d) (ho : ey m sh d) : RD ν (x.jc f) v (fL m sh d) ∧ (fL m sh d).aL = true := by
 cases sh with
 | nil => simp only [fL]; simp only [ey] at ho; exact ⟨h.mono (kY x f), ho⟩
 | cons s r =>
  cases d <;> simp only [fL] <;> simp only [ey] at ho <;> first
   | (obtain ⟨h1, h2, _⟩ := nY hs hag s v _ h ho; exact ⟨h1, h2⟩)
   | skip
  rename_i ds
  cases h with
  | agg cs _ hl h1 h =>
   obtain ⟨a1, a2, a3⟩ := nZ hs hag (s :: r) ds (fun j => cs.getD j undef) h ho
   exact ⟨.agg cs _ (by rw [a1, hl]) (fun i hi => h1 i (by omega)) (fun i hi => a3 i (by omega)), by rw [D.mS]; exact a2⟩
theorem fw (hs : dm ν x f) (hag : ∀ l, look m l ≠ none → f l = look m l) : ∀ (ss : List (List Sh)) (ds : List D) (c : Nat → Value), (∀ j, j < ds.length → RD ν x (c j) (ds.getD j .any)) → fG m ss ds →
  (dD m ss ds).length = ds.length ∧ aH (dD m ss ds) = true ∧ ∀ j, j < ds.length → RD ν (x.jc f) (c j) ((dD m ss ds).getD j .any)
 | ss, [], c, hc, ho => ⟨by simp [dD], by simp [dD, aH], fun j hj => by simp at hj⟩
 | [], d :: r, c, hc, ho => by
  simp only [fG] at ho
  obtain ⟨h1, h2⟩ := n0 hs hag [.a] (c 0) d (by simpa using hc 0 (by simp)) ho.1
  obtain ⟨a1, a2, a3⟩ := fw hs hag [] r (fun j => c (j + 1)) (fun j hj => by simpa using hc (j + 1) (by simp; omega)) ho.2
  refine ⟨by simp [dD, a1], by simp [dD, aH, h2, a2], fun j hj => ?_⟩
  cases j with
  | zero => simpa [dD] using h1
  | succ j => simpa [dD] using a3 j (by simpa using hj)
 | s :: ss, d :: r, c, hc, ho => by
  simp only [fG] at ho
  obtain ⟨h1, h2⟩ := n0 hs hag s (c 0) d (by simpa using hc 0 (by simp)) ho.1
  obtain ⟨a1, a2, a3⟩ := fw hs hag ss r (fun j => c (j + 1)) (fun j hj => by simpa using hc (j + 1) (by simp; omega)) ho.2
  refine ⟨by simp [dD, a1], by simp [dD, aH, h2, a2], fun j hj => ?_⟩
  cases j with
  | zero => simpa [dD] using h1
  | succ j => simpa [dD] using a3 j (by simpa using hj)
end
end Go.Abs
end
section
namespace Go.Abs
variable [cd]
def fm (P : Program) (x : X) (G : Value → X → Prop) (r : Result Next) : Prop :=
 (∃ v x', (r = .ok (.value v) x'.w ∨ r = .ok .skip x'.w ∧ v = undef) ∧ G v x') ∨
 (∃ f args, r = .ok (.enter f args) x.w ∧ Calls P f args x.w fun
   | .returned v, w' => ∃ x', x'.w = w' ∧ G v x'
   | _, _ => False)
theorem fm.mono {P : Program} {x : X} {G G' : Value → X → Prop} {r : Result Next} (h : fm P x G r) (hg : ∀ v x', G v x' → G' v x') : fm P x G' r := by
 rcases h with ⟨v, x', h1, h2⟩ | ⟨f, args, h1, h2⟩
 ·exact .inl ⟨v, x', h1, hg _ _ h2⟩
 ·refine .inr ⟨f, args, h1, Calls.mono h2 fun e w' he => ?_⟩
  cases e with
  | returned v => obtain ⟨x', e1, e2⟩ := he; exact ⟨x', e1, hg _ _ e2⟩
  | panicked c => exact he
  | outgrown => exact he
theorem fm.wp {P : Program} {x : X} {G : Value → X → Prop} {o : Oper} {a : Act} {next : Act → World → Prop} {Q : Exit → Act → World → Prop}
  (h : fm P x G ((execOp a.eval o).run P x.w)) (hn : ∀ v x', G v x' → next (a.put o.dst v) x'.w) : o.wp P a x.w next Q := by
 unfold Oper.wp
 rcases h with ⟨v, x', h1 | ⟨h1, h3⟩, h2⟩ | ⟨f, args, h1, h2⟩
 ·rw [h1]; exact hn v x' h2
 ·rw [h1]; subst h3; exact hn _ x' h2
 ·rw [h1, Oper.upon_enter]
  refine Calls.mono h2 fun e w' he => ?_
  cases e with
  | returned v => obtain ⟨x', e1, e2⟩ := he; subst e1; exact hn v x' e2
  | panicked c => exact he.elim
  | outgrown => exact he.elim
structure iX (x x' : X) : Prop where
 grow : dM x.w x'.w
 I : ∀ b, x.I b → x'.I b
 newI : ∀ b, x'.I b → x.I b ∨ x.w.heap.size ≤ b
 imm : ∀ b, x'.I b → b < x'.w.heap.size
 β : x'.β = x.β
structure dj (st : St) (x : X) : Prop where
 β : ∀ l, st.nx ≤ l → x.β l = none
 m : ∀ l, look st.m l ≠ none → l < st.nx
structure Ok (P : Program) (ν : List (Nat × Nat)) (bM : List Nat) (Γ : Ctx) : Prop where
 small : ∀ fid n, cZ ν fid = some n → n < 1000000
 bld : ∀ t, bM.contains (1000000000 + t) = true → t = cd.tB
 pure : ∀ fid n, cZ ν fid = some n → ∀ (x : X) (args : Array Value) (ds : List D), args.size = ds.length → (∀ i, i < ds.length → RD ν x (args.getD i undef) (ds.getD i .any)) → aH ds = true →
  (∀ b, x.I b → b < x.w.heap.size) → cd.gd x → Γ.pre n ds → fm P x (fun v x' => iX x x' ∧ RD ν x' v (Γ.val n ds)) ((callFunc fid args).run P x.w)
 effF : ∀ fid n, cZ ν fid = some n → bM.contains (2 * n + 1) = true → ∀ (x : X) (f : Nat → Option bm) (args : Array Value) (l k : Nat) (d : D) (ds : List D), args.size = ds.length + 1 → RD ν x (args.getD 0 undef) (.ptr l k 0 0) →
  (∀ i, i < ds.length → RD ν x (args.getD (i + 1) undef) (ds.getD i .any)) → dm ν x f → f l = some (.buf k [d]) → d.aL = true → aH ds = true → Γ.fp n d ds →
  fm P x (fun v x' => Step x x' ∧ RD ν x' v (Γ.fv n d ds) ∧ dm ν x' (fun l' => if l' = l then some (.buf k [Γ.fs n d ds]) else f l') ∧ x'.β = x.β) ((callFunc fid args).run P x.w)
 bM : ∀ fid n, cZ ν fid = some n → ∀ (x : X) (args : Array Value) (ds : List D) (st : St) (K : D → St → Prop), args.size = ds.length → (∀ i, i < ds.length → RD ν x (args.getD i undef) (ds.getD i .any)) →
  dm ν x (look st.m) → dj st x → Γ.tr n ds st K → fm P x (fun v x' => ∃ d st', K d st' ∧ Step x x' ∧ RD ν x' v d ∧ dm ν x' (look st'.m) ∧ dj st' x') ((callFunc fid args).run P x.w)
section
variable {x : X} {f : Nat → Option bm} {C : CC} {defs : List (Option Nat)} {ρ : Src → aN} {ev : Operand → Value} {Γ : Ctx} {m : List (Nat × bm)} {L : Nat} {ν : List (Nat × Nat)}
theorem iX.step {x' : X} (h : iX x x') (himm : ∀ b, x.I b → b < x.w.heap.size) : Step x x' :=
 ⟨h.grow.os, h.grow.tape, h.grow.output, h.grow.size, h.I, fun b hb => h.grow.old b (himm b hb), fun l p hp => by rw [h.β]; exact hp, fun b hb _ => h.grow.old b hb, fun b hb => (h.newI b hb).imp id .inl, fun l p hp => .inl (by rw [h.β] at hp; exact hp)⟩
theorem iX.jx {x' : X} (h : iX x x') (hs : dm ν x f) : dm ν x' f := by
 have hst := h.step hs.imm
 refine ⟨fun l blk b base tot e1 e2 => ?_, fun l1 l2 b base tot base' tot' e1 e2 e3 e4 => ?_, h.imm, fun l b base tot e => ?_, mc hst.le hs.gd⟩
 ·rw [h.β] at e2
  obtain ⟨a1, a2⟩ := hs.own l blk b base tot e1 e2
  have hb := hs.cT l b base tot e2
  refine ⟨fun hI => ?_, a2.mono hst.le (h.grow.old b hb)⟩
  rcases h.newI b hI with h1 | h1
  ·exact a1 h1
  ·omega
 ·rw [h.β] at e3 e4
  exact hs.inj l1 l2 b base tot base' tot' e1 e2 e3 e4
 ·rw [h.β] at e
  exact Nat.lt_of_lt_of_le (hs.cT l b base tot e) h.grow.size
mutual
theorem BK (m m' : List (Nat × bm)) : ∀ (s : Sh) (d : D), d.aL = true → kA m s d = kA m' s d ∧ hZ m s d
 | .a, d, h => by cases d <;> simp_all [kA, hZ, D.aL]
 | .sl k cs, d, h => by cases d <;> simp_all [kA, hZ, D.aL]
 | .pt cs, d, h => by cases d <;> simp_all [kA, hZ, D.aL]
theorem BL (m m' : List (Nat × bm)) : ∀ (ss : List Sh) (ds : List D), aH ds = true → kB m ss ds = kB m' ss ds ∧ iB m ss ds
 | [], ds, h => by simp [kB, iB, h]
 | s :: r, [], h => by simp [kB, iB]
 | s :: r, d :: ds, h => by
  simp only [aH, Bool.and_eq_true] at h
  obtain ⟨a1, a2⟩ := BK m m' s d h.1
  obtain ⟨b1, b2⟩ := BL m m' r ds h.2
  simp only [kB, iB, a1, b1]
  exact ⟨trivial, a2, b2⟩
end
theorem BM (m m' : List (Nat × bm)) (ss : List Sh) (d : D) (h : d.aL = true) : fL m ss d = fL m' ss d ∧ ey m ss d := by
 cases ss with
 | nil => simp [fL, ey, h]
 | cons s r =>
  cases d <;> simp only [fL, ey] <;> first
   | exact BK m m' s _ h
   | skip
  obtain ⟨a1, a2⟩ := BL m m' (s :: r) _ (by rwa [D.mS] at h)
  exact ⟨by rw [a1], a2⟩
theorem su (m m' : List (Nat × bm)) : ∀ (ss : List (List Sh)) (ds : List D), aH ds = true → dD m ss ds = dD m' ss ds ∧ fG m ss ds
 | ss, [], h => by simp [dD, fG]
 | [], d :: r, h => by
  simp only [aH, Bool.and_eq_true] at h
  obtain ⟨a1, a2⟩ := BM m m' [.a] d h.1
  obtain ⟨b1, b2⟩ := su m m' [] r h.2
  simp only [dD, fG, a1, b1]
  exact ⟨trivial, a2, b2⟩
 | s :: ss, d :: r, h => by
  simp only [aH, Bool.and_eq_true] at h
  obtain ⟨a1, a2⟩ := BM m m' s d h.1
  obtain ⟨b1, b2⟩ := su m m' ss r h.2
  simp only [dD, fG, a1, b1]
  exact ⟨trivial, a2, b2⟩
def Goal (ν : List (Nat × Nat)) (x : X) (f : Nat → Option bm) (L : Nat) (d : D) (v : Value) (x' : X) : Prop := Step x x' ∧ RD ν x' v d ∧ dm ν x' f ∧ ∀ l, l ≠ L → x'.β l = x.β l
theorem sV.lY {P : Program} {f' : Nat → Option bm} {d : D} {r : Result Next} (h : sV ν x f' L d r) : fm P x (Goal ν x f' L d) r := by
 obtain ⟨v, x', h1, h2, h3, h4, h5⟩ := h
 exact .inl ⟨v, x', h1, h2, h3, h4, h5⟩
theorem tv {P : Program} {bM : List Nat} (hΓ : Ok P ν bM Γ) {fid n : Nat} (hn : cZ ν fid = some n) {args : Array Value} {ds : List D} {sh : List (List Sh)} (hl : args.size = ds.length)
  (hargs : ∀ i, i < ds.length → RD ν x (args.getD i undef) (ds.getD i .any)) (hs : dm ν x f) (hag : aH ds = false → ∀ l, look m l ≠ none → f l = look m l) (ho : fG m sh ds) (hpre : Γ.pre n (dD m sh ds))
  (hok : nL ds (Γ.val n (dD m sh ds)) = true) : fm P x (Goal ν x f L (Γ.val n (dD m sh ds))) ((callFunc fid args).run P x.w) := by
 cases hnl : aH ds with
 | true =>
  obtain ⟨e1, _⟩ := su m [] sh ds hnl
  obtain ⟨_, e2⟩ := su [] m sh ds hnl
  have hs0 : dm ν x (fun _ => none) := hs.less fun _ => .inr (.inl rfl)
  obtain ⟨a1, a2, a3⟩ := fw (m := []) hs0 (fun l h => by simp [look] at h) sh ds (fun j => args.getD j undef) hargs e2
  rw [← e1] at a1 a2 a3
  have hle : Le (x.jc fun _ => none) x := ⟨fun b hb => by
   rcases hb with h | ⟨_, _, _, _, h⟩
   ·exact h
   ·exact absurd rfl h, fun _ _ => rfl, fun _ _ h => h⟩
  refine (hΓ.pure fid n hn x args _ (by rw [a1, hl]) (fun i hi => (a3 i (by omega)).mono hle) a2 hs.imm hs.gd hpre).mono fun v x' h => ?_
  obtain ⟨h1, h2⟩ := h
  exact ⟨h1.step hs.imm, h2, h1.jx hs, fun l _ => by rw [h1.β]⟩
 | false =>
  obtain ⟨a1, a2, a3⟩ := fw hs (hag hnl) sh ds (fun j => args.getD j undef) hargs ho
  have hmf : (Γ.val n (dD m sh ds)).de = true := by simpa [nL, hnl] using hok
  have himm : ∀ b, (x.jc f).I b → b < x.w.heap.size := by
   intro b hb
   rcases hb with h | ⟨l, ⟨b', base, tot⟩, h1, h2, h3⟩
   ·exact hs.imm b h
   ·subst h2; exact hs.cT l _ _ _ h1
  have h := hΓ.pure fid n hn (x.jc f) args _ (by rw [a1, hl]) (fun i hi => a3 i (by omega)) a2 himm (mc (kY x f) hs.gd) hpre
  have key : ∀ v x', (iX (x.jc f) x' ∧ RD ν x' v (Γ.val n (dD m sh ds))) → Goal ν x f L (Γ.val n (dD m sh ds)) v ⟨x'.w, x.I, x.β⟩ := by
   intro v x' ⟨h1, h2⟩
   have hp : iX x ⟨x'.w, x.I, x.β⟩ := ⟨h1.grow, fun _ h => h, fun _ h => .inl h, fun b hb => Nat.lt_of_lt_of_le (hs.imm b hb) h1.grow.size, rfl⟩
   exact ⟨hp.step hs.imm, h2.de hmf, hp.jx hs, fun _ _ => rfl⟩
  rcases h with ⟨v, x', h1, h2⟩ | ⟨f', args', h1, h2⟩
  ·exact .inl ⟨v, ⟨x'.w, x.I, x.β⟩, h1, key v x' h2⟩
  ·refine .inr ⟨f', args', h1, Calls.mono h2 fun e w' he => ?_⟩
   cases e with
   | returned v => obtain ⟨x', e1, e2⟩ := he; exact ⟨⟨x'.w, x.I, x.β⟩, e1, key v x' e2⟩
   | panicked c => exact he
   | outgrown => exact he
end
end Go.Abs
end
section
namespace Go.Abs
variable [cd]
section
variable {x : X} {f : Nat → Option bm} {C : CC} {defs : List (Option Nat)} {ρ : Src → aN} {ev : Operand → Value} {Γ : Ctx} {m : List (Nat × bm)} {L : Nat} {ν : List (Nat × Nat)}
theorem og {f : Nat → Option bm} {m' : List (Nat × bm)} : eR f [] m' = f := by funext l; simp [eR]
theorem DC {i : aA} (hp : i.pure = true) : i.wr ρ L = [] := by cases i <;> simp_all [aA.pure, aA.wr]
theorem za {args : List D} {ls : Option (List Nat)} (hls : ls = bif aH args then some [] else none) (hag : vx f m ls) : aH args = false → ∀ l, look m l ≠ none → f l = look m l := by
 intro h
 rw [h] at hls
 subst hls
 exact hag
theorem Bt {o : Oper} {fid : Nat} {args : Array Operand} {tys : Array TypeId} {n : Nat} {ss : List Src} {sh : List (List Sh)} (hcst : ∀ d, ρ (.c d) = ⟨true, d⟩) (hΓ : Ok C.P C.ν C.bM Γ)
  (ho : o.op = .call { callee := .value (.func fid), args, argTypes := tys }) (h1 : cZ C.ν fid = some n) (h2 : C.oa defs args.toList = some ss) (hρ : qa C defs ρ ev x o.op.operands.toList) (hob : (aA.call n ss sh).cV Γ ρ m) (hs : dm C.ν x f) (hag : vx f m ((aA.call n ss sh).ki ρ)) :
  fm C.P x (Goal C.ν x (eR f ((aA.call n ss sh).wr ρ L) ((aA.call n ss sh).bM Γ ρ m L)) L ((aA.call n ss sh).val Γ ρ m L)) ((execOp ev o).run C.P x.w) := by
 obtain ⟨k1, k2, k3, k4⟩ := hob
 have hv := hρ (.func fid) (by simp [ho, Op.operands, Call.operands]) (.c (.fn n [])) (by simp [CC.src, h1]) (by rw [hcst])
 rw [hcst] at hv
 obtain ⟨s1, s2, s3⟩ := dY hρ _ _ (fun o' ho' => by simp only [ho, Op.operands, Call.operands]; simp at ho' ⊢; exact .inr ho') h2 k1
 generalize hep : ev (.func fid) = vf at hv
 cases hv with
 | cT => exact absurd (hΓ.small _ _ h1) (by omega)
 | fn fid' _ cs _ hν hl _ =>
  have hcs : cs = #[] := by apply Array.ext'; simpa using hl
  subst hcs
  have hrun : (execOp ev o).run C.P x.w = (callFunc fid' (args.map ev)).run C.P x.w := by
   simp [execOp, ho, resolve, Deferred.ofValue, invoke, hep]
  rw [hrun]
  have hwr : (aA.call n ss sh).wr ρ L = [] := rfl
  rw [hwr, og]
  simp only [aA.val]
  refine tv hΓ hν (by simp; simpa using s2.symm) (fun i hi => ?_) hs (za rfl hag) k2 k3 k4
  have := s3 i hi
  rwa [← Array.toList_map, bn] at this
theorem iG (a b : Array Value) (i : Nat) : (a ++ b).getD i undef = if i < a.size then a.getD i undef else b.getD (i - a.size) undef := by
 rw [← bn, Array.toList_append, bT]
 simp only [Array.length_toList, bn]
theorem Bu {o : Oper} {t : Nat} {args : Array Operand} {tys : Array TypeId} {s : Src} {ss : List Src} {sh : List (List Sh)} (hΓ : Ok C.P C.ν C.bM Γ)
  (ho : o.op = .call { callee := .value (.tmp t), args, argTypes := tys }) (h1 : C.src defs (.tmp t) = some s) (h2 : C.oa defs args.toList = some ss) (hρ : qa C defs ρ ev x o.op.operands.toList) (hob : (aA.callv s ss sh).cV Γ ρ m) (hs : dm C.ν x f) (hag : vx f m ((aA.callv s ss sh).ki ρ)) :
  fm C.P x (Goal C.ν x (eR f ((aA.callv s ss sh).wr ρ L) ((aA.callv s ss sh).bM Γ ρ m L)) L ((aA.callv s ss sh).val Γ ρ m L)) ((execOp ev o).run C.P x.w) := by
 obtain ⟨k0, k1, k2⟩ := hob
 have hv := hρ (.tmp t) (by simp [ho, Op.operands, Call.operands]) s h1 k0
 obtain ⟨s1, s2, s3⟩ := dY hρ _ _ (fun o' ho' => by simp only [ho, Op.operands, Call.operands]; simp at ho' ⊢; exact .inr ho') h2 k1
 cases hd : (ρ s).d <;> simp only [hd] at k2
 rename_i n caps
 obtain ⟨k1', k2, k3, k4⟩ := k2
 rw [hd] at hv
 generalize hep : ev (.tmp t) = vf at hv
 cases hv with
 | cT _ n' => exact absurd k1' (by omega)
 | fn fid' _ cs _ hν hl hcs =>
  have hrun : (execOp ev o).run C.P x.w = (callFunc fid' (args.map ev ++ cs)).run C.P x.w := by
   simp [execOp, ho, resolve, Deferred.ofValue, invoke, hep]
  rw [hrun]
  have hwr : (aA.callv s ss sh).wr ρ L = [] := rfl
  rw [hwr, og]
  have qD : (aA.callv s ss sh).val Γ ρ m L = Γ.val n (dD m sh (eB ρ ss ++ caps)) := by simp [aA.val, hd]
  rw [qD]
  have hsz : args.size = (eB ρ ss).length := by simpa using s2.symm
  refine tv hΓ hν (by simp [hl, hsz]) (fun i hi => ?_) hs (za (by simp [aA.ki, hd]) hag) k2 k3 k4
  rw [iG, bT]
  simp only [Array.size_map, hsz]
  split
  ·rename_i hlt
   have := s3 i hlt
   rwa [← Array.toList_map, bn] at this
  ·exact hcs _ (by simp at hi; omega)
theorem zU {o : Oper} {fid : Nat} {args : Array Operand} {tys : Array TypeId} {n : Nat} {r : Src} {ss : List Src} {sh : List (List Sh)} (hcst : ∀ d, ρ (.c d) = ⟨true, d⟩) (hΓ : Ok C.P C.ν C.bM Γ) (hef : C.bM.contains (2 * n + 1) = true)
  (ho : o.op = .call { callee := .value (.func fid), args, argTypes := tys }) (h1 : cZ C.ν fid = some n) (h2 : C.oa defs args.toList = some (r :: ss)) (hρ : qa C defs ρ ev x o.op.operands.toList) (hob : (aA.callF n r ss sh).cV Γ ρ m) (hs : dm C.ν x f)
  (hag : vx f m ((aA.callF n r ss sh).ki ρ)) :
  fm C.P x (Goal C.ν x (eR f ((aA.callF n r ss sh).wr ρ L) ((aA.callF n r ss sh).bM Γ ρ m L)) L ((aA.callF n r ss sh).val Γ ρ m L)) ((execOp ev o).run C.P x.w) := by
 obtain ⟨k0, k1, k2, k3⟩ := hob
 have hv := hρ (.func fid) (by simp [ho, Op.operands, Call.operands]) (.c (.fn n [])) (by simp [CC.src, h1]) (by rw [hcst])
 rw [hcst] at hv
 obtain ⟨s1, s2, s3⟩ := dY hρ _ _ (fun o' ho' => by simp only [ho, Op.operands, Call.operands]; simp at ho' ⊢; exact .inr ho') h2 ⟨k0, k1⟩
 cases hd : (ρ r).d <;> simp only [hd] at k3
 rename_i l k i o'
 obtain ⟨rfl, rfl, k4, k5, k6, k7⟩ := k3
 generalize hep : ev (.func fid) = vf at hv
 cases hv with
 | cT => exact absurd (hΓ.small _ _ h1) (by omega)
 | fn fid' _ cs _ hν hl _ =>
  have hcs : cs = #[] := by apply Array.ext'; simpa using hl
  subst hcs
  have hrun : (execOp ev o).run C.P x.w = (callFunc fid' (args.map ev)).run C.P x.w := by
   simp [execOp, ho, resolve, Deferred.ofValue, invoke, hep]
  rw [hrun]
  have hlk : f l = look m l := hag l (by simp [hd, bW])
  obtain ⟨g1, g2, g3⟩ := nJ hs hlk k4
  have hb1 : aE m l = [(aE m l).getD 0 .any] := by
   match he : aE m l, k5 with
   | [e], _ => rfl
  have hsz : args.size = ss.length + 1 := by simpa using s1
  have hdl : (eB ρ ss).length = ss.length := by
   have := s2; simp only [eB, List.length_cons] at this; have h4 := s1; simp only [List.length_cons] at h4; omega
  obtain ⟨p1, p2⟩ := su [] [] sh (eB ρ ss) k2
  have hs0 : dm C.ν x (fun _ => none) := hs.less fun _ => .inr (.inl rfl)
  have hget : ∀ q, (args.map ev).getD q undef = (args.toList.map ev).getD q undef := fun q => by rw [← Array.toList_map, bn]
  obtain ⟨a1, a2, a3⟩ := fw (m := []) hs0 (fun l h => by simp [look] at h) sh (eB ρ ss) (fun j => (args.map ev).getD (j + 1) undef) (fun j hj => by
   have := s3 (j + 1) (by simp only [eB, List.length_cons]; omega)
   rw [hget]; simpa [eB] using this) p2
  have hle : Le (x.jc fun _ => none) x := ⟨fun b hb => by
   rcases hb with h | ⟨_, _, _, _, h⟩
   ·exact h
   ·exact absurd rfl h, fun _ _ => rfl, fun _ _ h => h⟩
  have h0 : RD C.ν x ((args.map ev).getD 0 undef) (.ptr l k 0 0) := by
   have := s3 0 (by simp [eB])
   rw [hget]; simpa [eB, hd] using this
  rw [hb1] at g1
  refine (hΓ.effF fid' n hν hef x f _ l k _ (dD [] sh (eB ρ ss)) (by simp [a1, hdl, hsz]) h0 (fun i hi => (a3 i (by omega)).mono hle) hs g1 k6 a2 k7).mono fun v x' h => ?_
  obtain ⟨q1, q2, q3, q4⟩ := h
  refine ⟨q1, by simpa only [aA.val, hd] using q2, q3.less fun l' => .inl ?_, fun l' _ => by rw [q4]⟩
  simp only [eR, aA.wr, hd, bW, aA.bM, List.mem_singleton, bt]
  by_cases e : l' = l
  ·rw [if_pos e, if_pos e, if_pos e]
  ·rw [if_neg e, if_neg e]
theorem sf {o : Oper} {i : aA} (hc : C.op defs o = some i) (hncm : i.cu = false) (hΓ : Ok C.P C.ν C.bM Γ) (hρ : qa C defs ρ ev x o.op.operands.toList) (hcst : ∀ d, ρ (.c d) = ⟨true, d⟩) (hob : i.cV Γ ρ m) (hs : dm C.ν x f) (hag : vx f m (i.ki ρ)) (hL : x.β L = none) :
  fm C.P x (Goal C.ν x (eR f (i.wr ρ L) (i.bM Γ ρ m L)) L (i.val Γ ρ m L)) ((execOp ev o).run C.P x.w) := by
 by_cases hp : i.pure = true
 ·rw [DC hp, og]
  exact (Dv hc hp hρ hob hs).lY
 ·cases ho : o.op with
  | alloc t => exact (Bs hc (.inl ⟨t, ho⟩) hρ hcst hob hs hL hΓ.bld).lY
  | box t p => exact (Bs hc (.inr ⟨t, p, ho⟩) hρ hcst hob hs hL hΓ.bld).lY
  | buildSlice t n ps => exact (Fx hc ho hρ hob hs hL).lY
  | load t p => exact (Dt hc ho hρ hob hs hag).lY
  | store t p q => exact (Bw hc ho hρ hob hs hag).lY
  | makeSlice t a b => exact (Fy hc ho hρ hob hs hL).lY
  | range t p => exact (Bv hc ho hρ hob hs hL).lY
  | next it b =>
   cases b
   ·simp [CC.op, ho] at hc
   ·exact (Du hc ho hρ hob hs hag).lY
  | convert s d p =>
   have : (∃ a, i = .s2b a) ∨ (∃ a, i = .b2s a) := by
    simp only [CC.op, ho] at hc
    (repeat' split at hc) <;> simp only [Option.some.injEq, reduceCtorEq] at hc <;> subst hc <;> first
      | exact .inl ⟨_, rfl⟩
      | exact .inr ⟨_, rfl⟩
      | (exfalso; exact hp rfl)
   rcases this with ⟨a, rfl⟩ | ⟨a, rfl⟩
   ·exact (Fz (i := .s2b a) hc ho hρ hob hs hL).lY
   ·exact (Fw hc ho hρ hob hs hag).lY
  | call c =>
   obtain ⟨callee, args, argTypes⟩ := c
   cases callee with
   | builtin bu =>
    cases bu with
    | append =>
     have hx : ∃ p q t u, args = #[p, q] ∧ argTypes = #[t, u] := by
      simp only [CC.op, ho] at hc
      split at hc
      ·rename_i p q t u hargs htys
       exact ⟨p, q, t, u, by apply Array.ext'; simpa using hargs, by apply Array.ext'; simpa using htys⟩
      ·cases hc
     obtain ⟨p, q, t, u, rfl, rfl⟩ := hx
     exact (Fv hc ho hρ hob hs hag hL).lY
    | len =>
     exfalso
     simp only [CC.op, ho] at hc
     (repeat' split at hc) <;> simp only [Option.some.injEq, reduceCtorEq] at hc <;> subst hc <;> exact hp rfl
    | _ => simp [CC.op, ho] at hc
   | value fv =>
    cases fv with
    | func fid =>
     have hc0 := hc
     simp only [CC.op, ho] at hc
     split at hc
     ·rename_i n ss h1 h2
      split at hc
      ·simp only [Option.some.injEq] at hc
       subst hc
       simp [aA.cu] at hncm
      ·split at hc
       ·rename_i hef
        split at hc
        ·rename_i r rest
         simp only [Option.some.injEq] at hc
         subst hc
         exact zU hcst hΓ hef ho h1 h2 hρ hob hs hag
        ·cases hc
       ·simp only [Option.some.injEq] at hc
        subst hc
        exact Bt hcst hΓ ho h1 h2 hρ hob hs hag
     ·cases hc
    | tmp t =>
     simp only [CC.op, ho] at hc
     split at hc
     ·rename_i s ss h1 h2
      split at hc
      ·simp only [Option.some.injEq] at hc
       subst hc
       simp [aA.cu] at hncm
      ·simp only [Option.some.injEq] at hc
       subst hc
       exact Bu hΓ ho h1 h2 hρ hob hs hag
     ·cases hc
    | _ => simp [CC.op, ho] at hc
   | invoke r n => simp [CC.op, ho] at hc
  | move p => exfalso; simp only [CC.op, ho, Option.map_eq_some_iff] at hc; obtain ⟨s, h1, rfl⟩ := hc; exact hp rfl
  | assign p => exfalso; simp only [CC.op, ho, Option.map_eq_some_iff] at hc; obtain ⟨s, h1, rfl⟩ := hc; exact hp rfl
  | nilCheck p => exfalso; simp only [CC.op, ho, Option.map_eq_some_iff] at hc; obtain ⟨s, h1, rfl⟩ := hc; exact hp rfl
  | unOp op t p => exfalso; simp only [CC.op, ho, Option.map_eq_some_iff] at hc; obtain ⟨s, h1, rfl⟩ := hc; exact hp rfl
  | extract p n => exfalso; simp only [CC.op, ho, Option.map_eq_some_iff] at hc; obtain ⟨s, h1, rfl⟩ := hc; exact hp rfl
  | makeFunc fn fst caps =>
   exfalso
   cases fn <;> simp only [CC.op, ho] at hc <;> try (cases hc; done)
   (repeat' split at hc) <;> (try simp only [Option.some.injEq, reduceCtorEq] at hc) <;> first
     | (subst hc; exact hp rfl)
     | exact hc.elim
     | (simp only [Option.map_eq_some_iff] at hc; obtain ⟨_, _, rfl⟩ := hc; exact hp rfl)
  | _ =>
   exfalso
   simp only [CC.op, ho] at hc
   (try cases hc) <;> (repeat' split at hc) <;> (try simp only [Option.some.injEq, reduceCtorEq, Option.map_eq_some_iff] at hc) <;> first
     | (subst hc; exact hp rfl)
     | (obtain ⟨s, h1, rfl⟩ := hc; exact hp rfl)
     | exact hc.elim
     | cases hc
theorem eF (l k : Nat) (es : List D) : ∀ ds : List D, (kL l k es ds).length = ds.length
 | [] => rfl
 | d :: r => by simp [kL, eF l k es r]
theorem jd (l k : Nat) (es : List D) : ∀ (ds : List D) (i : Nat), (kL l k es ds).getD i .any = gI l k es (ds.getD i .any)
 | [], i => by simp [kL, gI]
 | d :: r, 0 => by simp [kL]
 | d :: r, i + 1 => by simpa [kL] using jd l k es r i
theorem RD.fz {ν : List (Nat × Nat)} {x x' : X} {l k : Nat} {es : List D} (hle : Le x x') (hn : aH es = true)
  (ho : ∀ b base tot, x.β l = some (b, base, tot) → x'.I b ∧ (∀ i, i < es.length → (es.getD i .any).cells.length = k) ∧ ∃ c : Nat → Nat → Value, ∀ i j, i < es.length → j < k →
    x'.w.cell? ⟨b, base + i * k + j, none⟩ = some (c i j) ∧ (c i j).oneCell' = true ∧ RD ν x' (c i j) ((es.getD i .any).cells.getD j .any)) {v : Value} {d : D} (h : RD ν x v d) : RD ν x' v (gI l k es d) := by
 induction h with
 | any v => exact .any v
 | bool b => exact .bool b
 | int k n => exact .int k n
 | str s h => exact .str s h
 | agg cs ds hl' h1 _ ih => exact .agg cs _ (by rw [eF]; exact hl') (fun i hi => h1 i (by rwa [eF] at hi)) fun i hi => by rw [jd]; exact ih i (by rwa [eF] at hi)
 | tup cs ds hl' _ ih => exact .tup cs _ (by rw [eF]; exact hl') fun i hi => by rw [jd]; exact ih i (by rwa [eF] at hi)
 | av => exact .av
 | sl a b off len cap k' es' c hlen ha hcap hm hk hn' hc h1 h _ => exact (RD.sl a b off len cap k' es' c hlen ha hcap hm hk hn' hc h1 h).mono hle
 | ref b off k' i o at_ es' c hI hat hk hn' hc h1 h _ => exact (RD.ref b off k' i o at_ es' c hI hat hk hn' hc h1 h).mono hle
 | ptr l' k' i o b base tot at_ hβ hat =>
  simp only [gI]
  split
  ·rename_i hh
   obtain ⟨rfl, rfl⟩ := hh
   obtain ⟨o1, o2, c, o3⟩ := ho b base tot hβ
   exact .ref b base k' i o at_ es c o1 hat o2 (fun i _ => b8 hn i) (fun i j hi hj => (o3 i j hi hj).1) (fun i j hi hj => (o3 i j hi hj).2.1) (fun i j hi hj => (o3 i j hi hj).2.2)
  ·exact .ptr l' k' i o b base tot at_ (hle.β _ _ hβ) hat
 | own l' k' i n b base tot cap a hβ ha hcap hm ht =>
  simp only [gI]
  split
  ·rename_i hh
   obtain ⟨rfl, rfl, hin⟩ := hh
   obtain ⟨o1, o2, c, o3⟩ := ho b base tot hβ
   have hg : ∀ q, q < n → ((es.drop i).take n).getD q .any = es.getD (i + q) .any := fun q hq => by
    simp [List.getD, List.getElem?_take, hq]
   have hlen : ((es.drop i).take n).length = n := by simp; omega
   refine .sl (some a) b (base + i * k') n cap k' _ (fun q j => c (i + q) j) hlen.symm ?_ hcap hm (fun q hq => by rw [hg q hq]; exact o2 _ (by omega)) (fun q hq => by rw [hg q hq]; exact b8 hn _)
    (fun q j hq hj => ?_) (fun q j hq hj => (o3 (i + q) j (by omega) hj).2.1) (fun q j hq hj => by rw [hg q hq]; exact (o3 (i + q) j (by omega) hj).2.2)
   ·by_cases hc0 : 0 < cap
    ·right; rw [ha hc0]; exact ⟨rfl, o1⟩
    ·left; apply List.eq_nil_of_length_eq_zero; omega
   ·have := (o3 (i + q) j (by omega) hj).1
    rw [← this]; congr 2; rw [Nat.add_mul]; omega
  ·exact .own l' k' i n b base tot cap a (hle.β _ _ hβ) ha hcap hm ht
 | own0 l' k' i =>
  simp only [gI]
  split
  ·rename_i hh
   simp only [List.take_zero]
   exact .sl none 0 0 0 0 k [] (fun _ _ => undef) rfl (.inl rfl) (Nat.le_refl _) (Nat.zero_le _) (fun i hi => by omega) (fun i hi => by omega) (fun i j hi => by omega) (fun i j hi => by omega) (fun i j hi => by omega)
  ·exact .own0 l' k' i
 | nilp => exact .nilp
 | fn fid n cs ds hν hl' _ ih => exact .fn fid n cs _ hν (by rw [eF]; exact hl') fun i hi => by rw [jd]; exact ih i (by rwa [eF] at hi)
 | cT fid n cs ds hν hl' _ ih => exact .cT fid n cs _ hν (by rw [eF]; exact hl') fun i hi => by rw [jd]; exact ih i (by rwa [eF] at hi)
 | nilf => exact .nilf
 | it l b base tot hβ => exact .it l b base tot (hle.β _ _ hβ)
theorem rI {ρ : Src → aN} : ∀ (ps : List (Nat × Src)) (l : List D), (iA ρ l ps).length = l.length
 | [], l => rfl
 | (i, s) :: r, l => by simp only [iA]; rw [rI r]; simp
theorem fm.re {P : Program} {x : X} {Q Q' : Value → X → Prop} {r : Result Next} (h : fm P x Q r) (hq : ∀ v x', Q v x' → ∃ x'', x''.w = x'.w ∧ Q' v x'') : fm P x Q' r := by
 rcases h with ⟨v, x', h1, h2⟩ | ⟨f', args', h1, h2⟩
 ·obtain ⟨x'', e, h3⟩ := hq v x' h2
  exact .inl ⟨v, x'', by rw [e]; exact h1, h3⟩
 ·refine .inr ⟨f', args', h1, Calls.mono h2 fun e w' he => ?_⟩
  cases e with
  | returned v =>
   obtain ⟨x', e1, e2⟩ := he
   obtain ⟨x'', e3, h3⟩ := hq v x' e2
   exact ⟨x'', by rw [e3]; exact e1, h3⟩
  | panicked c => exact he
  | outgrown => exact he
theorem Goal.ice {x x' : X} {f : Nat → Option bm} {L k n : Nat} {es : List D} {v : Value} (hg : Goal ν x (eR f [L] (cw m L (.buf k es))) L (.own L k 0 n) v x') (hn : aH es = true) (hlen : es.length = n) (hL : x.β L = none) (hfL : f L = none) : ∃ x'', x''.w = x'.w ∧ Goal ν x f L (.sl k es) v x'' := by
 obtain ⟨h1, h2, h3, h4⟩ := hg
 have hlk : eR f [L] (cw m L (.buf k es)) L = some (.buf k es) := by simp [eR, bt]
 let x'' : X := ⟨x'.w, fun b => x'.I b ∨ ∃ p, x'.β L = some p ∧ p.1 = b, x'.β⟩
 have hle : Le x' x'' := ⟨fun _ h => .inl h, fun _ _ => rfl, fun _ _ h => h⟩
 have ho : ∀ b base tot, x'.β L = some (b, base, tot) → x''.I b ∧ (∀ i, i < es.length → (es.getD i .any).cells.length = k) ∧ ∃ c : Nat → Nat → Value, ∀ i j, i < es.length → j < k →
   x''.w.cell? ⟨b, base + i * k + j, none⟩ = some (c i j) ∧ (c i j).oneCell' = true ∧ RD ν x'' (c i j) ((es.getD i .any).cells.getD j .any) := by
  intro b base tot hβ
  obtain ⟨o1, o2, o3, c, T, fr, o4, o5, o6, o7⟩ := h3.own L _ b base tot hlk hβ
  refine ⟨.inr ⟨_, hβ, rfl⟩, fun i hi => (o7 i hi).1, fun i j => c.getD (base + i * k + j) undef, fun i j hi hj => ⟨?_, ((o7 i hi).2 j hj).1, ((o7 i hi).2 j hj).2.mono hle⟩⟩
  exact cell_of_heap o4 (by have := eO (tot := tot) (show i < tot by omega) hj; omega)
 have hrd : RD ν x'' v (.sl k es) := by
  have := h2.fz (x' := x'') (l := L) (k := k) (es := es) hle hn ho
  simpa [gI, hlen, List.take_of_length_le] using this
 have hnew : ∀ b, (∃ p, x'.β L = some p ∧ p.1 = b) → x.w.heap.size ≤ b ∨ ∃ l p, x.β l = some p ∧ p.1 = b := by
  rintro b ⟨p, e1, e2⟩
  rcases h1.newβ L p e1 with h | h | ⟨l', p', h, h'⟩
  ·rw [hL] at h; cases h
  ·exact .inl (e2 ▸ h)
  ·exact .inr ⟨l', p', h, h'.trans e2⟩
 refine ⟨x'', rfl, ⟨h1.os, h1.tape, h1.output, h1.size, fun b hb => .inl (h1.I b hb), h1.kX, h1.β, h1.old, fun b hb => ?_, h1.newβ⟩, hrd, ⟨fun l' blk b base tot e1 e2 => ?_, fun l1 l2 b base tot base' tot' e1 e2 e3 e4 => ?_, fun b hb => ?_, h3.cT, mc hle h3.gd⟩, h4⟩
 ·rcases hb with hb | hb
  ·exact h1.newI b hb
  ·exact .inr (hnew b hb)
 ·have hne : l' ≠ L := by rintro rfl; rw [hfL] at e1; cases e1
  have e1' : eR f [L] (cw m L (.buf k es)) l' = some blk := by simp [eR, hne, e1]
  obtain ⟨o1, o2⟩ := h3.own l' blk b base tot e1' e2
  refine ⟨?_, o2.mono hle rfl⟩
  rintro (hb | ⟨⟨b', base', tot'⟩, q1, q2⟩)
  ·exact o1 hb
  ·simp only at q2; subst q2
   exact hne (h3.inj l' L b' base tot base' tot' (by rw [e1']; simp) (by rw [hlk]; simp) e2 q1)
 ·have hn1 : ∀ l, f l ≠ none → eR f [L] (cw m L (.buf k es)) l ≠ none := fun l hl => by
   have hne : l ≠ L := by rintro rfl; exact hl hfL
   simpa [eR, hne] using hl
  exact h3.inj l1 l2 b base tot base' tot' (hn1 _ e1) (hn1 _ e2) e3 e4
 ·rcases hb with hb | ⟨⟨b', base', tot'⟩, q1, q2⟩
  ·exact h3.imm b hb
  ·simp only at q2; subst q2; exact h3.cT L _ _ _ q1
def OpX (C : CC) (defs : List (Option Nat)) (o : Oper) (i : aA) : Prop := C.op defs o = some i ∨ (∃ n ag p, i = .ldI n ag p ∧ C.op defs o = some (.ld n ag p)) ∨ (∃ k y, i = .appN k y ∧ C.op defs o = some (.app k (.c .av) y)) ∨ (∃ k z n ps, i = .bslI k z n ps ∧ C.op defs o = some (.bsl k z n ps)) ∨ ∃ n ag p, i = .ldU n ag p ∧ C.op defs o = some (.ld n ag p)
theorem va {o : Oper} {i : aA} (hc : OpX C defs o i) (hncm : i.cu = false) (hΓ : Ok C.P C.ν C.bM Γ) (hρ : qa C defs ρ ev x o.op.operands.toList) (hcst : ∀ d, ρ (.c d) = ⟨true, d⟩) (hob : i.cV Γ ρ m) (hs : dm C.ν x f) (hag : vx f m (i.ki ρ)) (hL : x.β L = none) (hfL : f L = none) :
  fm C.P x (Goal C.ν x (eR f (i.wr ρ L) (i.bM Γ ρ m L)) L (i.val Γ ρ m L)) ((execOp ev o).run C.P x.w) := by
 rcases hc with hc | ⟨n, ag, p, rfl, hc⟩ | ⟨k, y, rfl, hc⟩ | ⟨k, z, n, ps, rfl, hc⟩ | ⟨n, ag, p, rfl, hc⟩
 ·exact sf hc hncm hΓ hρ hcst hob hs hag hL
 rotate_left 3
 ·obtain ⟨k1, k2⟩ := hob
  have hob' : (aA.ld n ag p).cV Γ ρ m := by
   simp only [aA.cV]
   cases hd : (ρ p).d <;> simp only [hd] at k2 <;> simp only [xg]
   ·exact ⟨k1, k2⟩
   ·exact ⟨k1, k2.1⟩
  have h := sf (i := aA.ld n ag p) (L := L) hc rfl hΓ hρ hcst hob' hs hag hL
  exact h
 rotate_left
 rotate_left
 ·obtain ⟨k1, k2, k3⟩ := hob
  have hob' : (aA.bsl k z n ps).cV Γ ρ m := ⟨k1, k2⟩
  have := sf (L := L) hc rfl hΓ hρ hcst hob' hs (by simp [aA.ki, vx]) hL
  refine this.re fun v x' hg => ?_
  exact hg.ice k3 (by rw [rI, List.length_replicate]) hL hfL
 rotate_left
 ·obtain ⟨k1, k2, k3⟩ := hob
  have hob' : (aA.app k (.c .av) y).cV Γ ρ m := by simp only [aA.cV, hcst]; exact ⟨trivial, k1, k2, k3⟩
  have := sf (L := L) hc rfl hΓ hρ hcst hob' hs (by simpa [aA.ki, hcst, bW] using hag) hL
  have e1 : (aA.appN k y).val Γ ρ m L = (aA.app k (.c .av) y).val Γ ρ m L := by simp [aA.val, hcst]
  have e2 : (aA.appN k y).wr ρ L = (aA.app k (.c .av) y).wr ρ L := by simp [aA.wr, hcst, bW]
  have e3 : (aA.appN k y).bM Γ ρ m L = (aA.app k (.c .av) y).bM Γ ρ m L := by simp [aA.bM, hcst]
  rw [e1, e2, e3]
  exact this
 ·obtain ⟨k1, k2⟩ := hob
  cases hd : (ρ p).d <;> simp only [hd] at k2
  have hob' : (aA.ld n ag p).cV Γ ρ m := by simp only [aA.cV, hd, xg]; exact ⟨k1, k2⟩
  have := sf (L := L) hc rfl hΓ hρ hcst hob' hs (by simp [aA.ki, hd, bW, vx]) hL
  have e1 : (aA.ldI n ag p).val Γ ρ m L = (aA.ld n ag p).val Γ ρ m L := by simp [aA.val, hd, wj]
  rw [e1]
  exact this
end
end Go.Abs
end
section
namespace Go.Abs
variable [cd]
section
variable {C : CC} {Γ : Ctx}
theorem kr : ∀ (l : List Nat) (t n : Nat), qE l t = some n → l[n]? = some t
 | [], t, n, h => by simp [qE] at h
 | a :: r, t, n, h => by
  simp only [qE] at h
  split at h
  ·rename_i e; simp only [Option.some.injEq] at h; subst h; simp [e]
  ·simp only [Option.map_eq_some_iff] at h
   obtain ⟨k, h1, rfl⟩ := h
   simpa using kr r t k h1
theorem uP : ∀ (l : List Nat) (t n : Nat), l.Nodup → l[n]? = some t → qE l t = some n
 | [], t, n, _, h => by simp at h
 | a :: r, t, 0, _, h => by simp at h; simp [qE, h]
 | a :: r, t, n + 1, hn, h => by
  simp only [List.getElem?_cons_succ] at h
  rw [List.nodup_cons] at hn
  have : a ≠ t := fun e => hn.1 (e ▸ List.mem_of_getElem? h)
  simp [qE, this, uP r t n hn.2 h]
theorem sn : ∀ (l : List (Option Nat)) (t p : Nat), posOf t l = some p → l[p]? = some (some t)
 | [], t, n, h => by simp [posOf] at h
 | a :: r, t, n, h => by
  simp only [posOf] at h
  split at h
  ·rename_i e; simp only [Option.some.injEq] at h; subst h; simp [e]
  ·simp only [Option.map_eq_some_iff] at h
   obtain ⟨k, h1, rfl⟩ := h
   simpa using sn r t k h1
theorem sk : ∀ (l : List (Option Nat)) (t : Nat), posOf t l = none → ∀ p : Nat, l[p]? ≠ some (some t)
 | [], t, h, p => by simp
 | a :: r, t, h, p => by
  simp only [posOf] at h
  split at h
  ·cases h
  ·rename_i e
   simp only [Option.map_eq_none_iff] at h
   cases p with
   | zero => simpa using e
   | succ p => simpa using sk r t h p
structure Spec (C : CC) (ops : List Oper) (l : List GI) : Prop where
 len : l.length = ops.length
 op : ∀ (i : Nat) (o : Oper), ops[i]? = some o → ∃ g, l[i]? = some g ∧ OpX C ((ops.map (·.dst)).take i) o g.i ∧ CC.guard ((ops.map (·.dst)).take i) o.guard = some g.g
 dst : ∀ (i : Nat) (o : Oper) (d : Nat), ops[i]? = some o → o.dst = some d → d < C.ntmps ∧ ∀ p : Nat, p < i → (ops.map (·.dst))[p]? ≠ some (some d)
theorem wD : ∀ (ops pre : List Oper) (l lp : List GI), Spec C pre lp → C.ops (pre.map (·.dst)) ops = some l → Spec C (pre ++ ops) (lp ++ l)
 | [], pre, l, lp, hp, h => by simp [CC.ops] at h; subst h; simpa using hp
 | o :: r, pre, l, lp, hp, h => by
  simp only [CC.ops] at h
  split at h
  ·rename_i i g l' h1 h2 h3
   split at h
   ·rename_i hd
    simp only [Option.some.injEq] at h
    subst h
    have hp' : Spec C (pre ++ [o]) (lp ++ [⟨i, g⟩]) := by
     have hl := hp.len
     refine ⟨by simp [hl], fun j o' ho' => ?_, fun j o' d ho' hd' => ?_⟩
     ·rw [List.getElem?_append] at ho'
      split at ho'
      ·rename_i hj
       obtain ⟨g', a1, a2, a3⟩ := hp.op j o' ho'
       have e : ((pre ++ [o]).map (·.dst)).take j = (pre.map (·.dst)).take j := by rw [List.map_append, List.take_append_of_le_length (by simp; omega)]
       rw [e]
       exact ⟨g', by rw [List.getElem?_append_left (by omega)]; exact a1, a2, a3⟩
      ·rename_i hj
       obtain rfl : j = pre.length := by
        have := (List.getElem?_eq_some_iff.1 ho').1
        simp at this; omega
       simp at ho'
       subst ho'
       have e : ((pre ++ [o]).map (·.dst)).take pre.length = pre.map (·.dst) := by simp
       rw [e]
       exact ⟨⟨i, g⟩, by rw [← hl]; simp, .inl h1, h2⟩
     ·rw [List.getElem?_append] at ho'
      split at ho'
      ·rename_i hj
       obtain ⟨a1, a2⟩ := hp.dst j o' d ho' hd'
       refine ⟨a1, fun p hpj => ?_⟩
       rw [List.map_append, List.getElem?_append_left (by simp; omega)]
       exact a2 p hpj
      ·rename_i hj
       obtain rfl : j = pre.length := by
        have := (List.getElem?_eq_some_iff.1 ho').1
        simp at this; omega
       simp at ho'
       subst ho'
       simp only [hd', Option.all_some, Bool.and_eq_true, decide_eq_true_eq, Bool.not_eq_true', List.contains_eq_mem, decide_eq_false_iff_not] at hd
       refine ⟨hd.1, fun p hpj => ?_⟩
       rw [List.map_append, List.getElem?_append_left (by simp; omega)]
       exact fun e => hd.2 (List.mem_of_getElem? e)
    have := wD r (pre ++ [o]) l' (lp ++ [⟨i, g⟩]) hp' (by simpa using h3)
    simpa using this
   ·cases h
  ·cases h
theorem Spec.start {ops : List Oper} {l : List GI} (h : C.ops [] ops = some l) : Spec C ops l := by
 have := wD (C := C) ops [] l [] ⟨rfl, fun i o h => by simp at h, fun i o d h => by simp at h⟩ (by simpa using h)
 simpa using this
theorem B4 (i : aA) : i.FN = i ∨ ∃ k y, i = .app k (.c .av) y ∧ i.FN = .appN k y := by
 unfold aA.FN
 split
 ·rename_i k y; exact .inr ⟨k, y, rfl, rfl⟩
 ·exact .inl rfl
theorem rY (bs : List Nat) (l0 : List GI) : ∀ (l : List GI) (p i : Nat) (g : GI), l[i]? = some g → ∃ g', (im bs l0 p l)[i]? = some g' ∧ g'.g = g.g ∧ (g'.i = g.i ∨ (∃ n ag x, g.i = .ld n ag x ∧ g'.i = .ldI n ag x) ∨ (∃ k y, g.i = .app k (.c .av) y ∧ g'.i = .appN k y) ∨ (∃ k z n ps, g.i = .bsl k z n ps ∧ g'.i = .bslI k z n ps) ∨ ∃ n ag x, g.i = .ld n ag x ∧ g'.i = .ldU n ag x)
 | [], p, i, g, h => by simp at h
 | a :: r, p, 0, g, h => by
  simp only [List.getElem?_cons_zero, Option.some.injEq] at h
  subst h
  simp only [im, List.getElem?_cons_zero, Option.some.injEq, exists_eq_left']
  split
  ·rename_i n ag x hi
   split
   ·split
    ·exact ⟨rfl, .inr (.inr (.inr (.inr ⟨n, ag, x, hi, rfl⟩)))⟩
    ·exact ⟨rfl, .inr (.inl ⟨n, ag, x, hi, rfl⟩)⟩
   ·exact ⟨rfl, .inl rfl⟩
  ·rename_i k z n ps hi
   split
   ·exact ⟨rfl, .inr (.inr (.inr (.inl ⟨k, z, n, ps, hi, rfl⟩)))⟩
   ·exact ⟨rfl, .inl rfl⟩
  ·exact ⟨rfl, (B4 a.i).imp id fun h => .inr (.inl h)⟩
 | a :: r, p, i + 1, g, h => by
  simp only [im, List.getElem?_cons_succ] at h ⊢
  exact rY bs l0 r (p + 1) i g h
theorem rZ (bs : List Nat) (l0 : List GI) : ∀ (l : List GI) (p : Nat), (im bs l0 p l).length = l.length
 | [], p => rfl
 | a :: r, p => by simp only [im, List.length_cons, rZ bs l0 r (p + 1)]
theorem Spec.im {ops : List Oper} {l : List GI} (bs : List Nat) (h : Spec C ops l) : Spec C ops (im bs l 0 l) := by
 refine ⟨by rw [rZ]; exact h.len, fun i o ho => ?_, h.dst⟩
 obtain ⟨g, h1, h2, h3⟩ := h.op i o ho
 obtain ⟨g', a1, a2, a3⟩ := rY bs l l 0 i g h1
 refine ⟨g', a1, ?_, by rw [a2]; exact h3⟩
 rcases a3 with e | ⟨n, ag, x, e1, e2⟩ | ⟨k, y, e1, e2⟩ | ⟨k, z, n, ps, e1, e2⟩ | ⟨n, ag, x, e1, e2⟩
 ·rw [e]; exact h2
 ·rw [e1] at h2
  rcases h2 with h2 | ⟨n', ag', p', h4, _⟩ | ⟨k', y', h4, _⟩ | ⟨_, _, _, _, h4, _⟩ | ⟨_, _, _, h4, _⟩
  ·exact .inr (.inl ⟨n, ag, x, e2, h2⟩)
  all_goals cases h4
 ·rw [e1] at h2
  rcases h2 with h2 | ⟨n', ag', p', h4, _⟩ | ⟨k', y', h4, _⟩ | ⟨_, _, _, _, h4, _⟩ | ⟨_, _, _, h4, _⟩
  ·exact .inr (.inr (.inl ⟨k, y, e2, h2⟩))
  all_goals cases h4
 ·rw [e1] at h2
  rcases h2 with h2 | ⟨n', ag', p', h4, _⟩ | ⟨k', y', h4, _⟩ | ⟨_, _, _, _, h4, _⟩ | ⟨_, _, _, h4, _⟩
  ·exact .inr (.inr (.inr (.inl ⟨k, z, n, ps, e2, h2⟩)))
  all_goals cases h4
 ·rw [e1] at h2
  rcases h2 with h2 | ⟨n', ag', p', h4, _⟩ | ⟨k', y', h4, _⟩ | ⟨_, _, _, _, h4, _⟩ | ⟨_, _, _, h4, _⟩
  ·exact .inr (.inr (.inr (.inr ⟨n, ag, x, e2, h2⟩)))
  all_goals cases h4
theorem Spec.distinct {ops : List Oper} {l : List GI} (h : Spec C ops l) {i p d : Nat} (hi : (ops.map (·.dst))[i]? = some (some d)) (hp : (ops.map (·.dst))[p]? = some (some d)) : p = i := by
 rw [List.getElem?_map, Option.map_eq_some_iff] at hi hp
 obtain ⟨oi, hi1, hi2⟩ := hi
 obtain ⟨op, hp1, hp2⟩ := hp
 rcases Nat.lt_trichotomy p i with h1 | h1 | h1
 ·exact absurd (by rw [List.getElem?_map, hp1, Option.map_some, hp2]) ((h.dst i oi d hi1 hi2).2 p h1)
 ·exact h1
 ·exact absurd (by rw [List.getElem?_map, hi1, Option.map_some, hi2]) ((h.dst p op d hp1 hp2).2 i h1)
structure rr (C : CC) (env : List aN) (DD : List (Option Nat)) (VS : List aN) (D : Nat → Prop) (a : Act) (x : X) : Prop where
 val : ∀ p t : Nat, D p → DD[p]? = some (some t) → (VS.getD p .un).ok = true → RD C.ν x (a.tmps.getD t undef) (VS.getD p .un).d
 und : ∀ p t : Nat, D p → DD[p]? = some (some t) → (VS.getD p .un).ok = false → a.tmps.getD t undef = undef
 old : ∀ n t : Nat, C.slots[n]? = some t → (∀ p, D p → DD[p]? ≠ some (some t)) → (env.getD n .un).ok = true → RD C.ν x (a.tmps.getD t undef) (env.getD n .un).d
 size : a.tmps.size = C.ntmps
 defers : a.defers = []
theorem BP (a : Act) (d : Nat) (v : Value) (t : Nat) (h : d < a.tmps.size) : (a.put (some d) v).tmps.getD t undef = if t = d then v else a.tmps.getD t undef := by
 simp only [Act.put, Array.getD_eq_getD_getElem?]
 rw [Array.getElem?_setIfInBounds]
 by_cases e : d = t
 ·subst e; simp [h]
 ·simp [e, Ne.symm e]
theorem rr.put {env : List aN} {DD : List (Option Nat)} {VS : List aN} {D D' : Nat → Prop} {a : Act} {x x' : X} {i : Nat} {dst : Option Nat} {v : Value} (h : rr C env DD VS D a x) (hle : Le x x') (hd : DD[i]? = some dst)
  (hdst : ∀ t, dst = some t → t < C.ntmps ∧ ∀ p, p ≠ i → DD[p]? ≠ some (some t)) (hv : (VS.getD i .un).ok = true → RD C.ν x' v (VS.getD i .un).d) (hu : (VS.getD i .un).ok = false → v = undef)
  (hD : ∀ p, D' p ↔ D p ∨ p = i) : rr C env DD VS D' (a.put dst v) x' := by
 cases dst with
 | none =>
  have hne : ∀ p t, DD[p]? = some (some t) → p ≠ i := fun p t e e' => by subst e'; rw [hd] at e; simp at e
  refine ⟨fun p t hp e ho => ?_, fun p t hp e ho => ?_, fun n t hn hp ho => ?_, h.size, h.defers⟩
  ·exact (h.val p t (((hD p).1 hp).resolve_right (hne p t e)) e ho).mono hle
  ·exact h.und p t (((hD p).1 hp).resolve_right (hne p t e)) e ho
  ·exact (h.old n t hn (fun p hp' => hp p ((hD p).2 (.inl hp'))) ho).mono hle
 | some d =>
  obtain ⟨h1, h2⟩ := hdst d rfl
  have hg := BP a d v (h := by rw [h.size]; exact h1)
  refine ⟨fun p t hp e ho => ?_, fun p t hp e ho => ?_, fun n t hn hp ho => ?_, by simp [Act.put, h.size], h.defers⟩
  ·by_cases hpi : p = i
   ·subst hpi
    rw [hd] at e
    simp only [Option.some.injEq] at e
    subst e
    rw [hg, if_pos rfl]; exact hv ho
   ·have : t ≠ d := fun e' => h2 p hpi (e' ▸ e)
    rw [hg, if_neg this]
    exact (h.val p t (((hD p).1 hp).resolve_right hpi) e ho).mono hle
  ·by_cases hpi : p = i
   ·subst hpi
    rw [hd] at e
    simp only [Option.some.injEq] at e
    subst e
    rw [hg, if_pos rfl]; exact hu ho
   ·have : t ≠ d := fun e' => h2 p hpi (e' ▸ e)
    rw [hg, if_neg this]
    exact h.und p t (((hD p).1 hp).resolve_right hpi) e ho
  ·have : t ≠ d := fun e' => hp i ((hD i).2 (.inr rfl)) (by rw [hd, e'])
   rw [hg, if_neg this]
   exact (h.old n t hn (fun p hp' => hp p ((hD p).2 (.inl hp'))) ho).mono hle
theorem getD_take {α : Type} (l : List α) (i p : Nat) (d : α) (h : p < i) : (l.take i).getD p d = l.getD p d := by
 simp [List.getD, List.getElem?_take, h]
theorem rr.rho {env : List aN} {DD : List (Option Nat)} {VS : List aN} {D : Nat → Prop} {a : Act} {x : X} {i : Nat} {os : List Operand} (h : rr C env DD VS D a x)
  (hr : ∀ t p, Operand.tmp t ∈ os → DD[p]? = some (some t) → (p < i → D p) ∧ (i ≤ p → ¬ D p)) : qa C (DD.take i) (Src.ev env (VS.take i)) a.eval x os := by
 intro o ho s hs hok
 cases o with
 | tmp t =>
  simp only [CC.src] at hs
  split at hs
  ·rename_i p hp
   simp only [Option.some.injEq] at hs
   subst hs
   have hp1 := sn _ _ _ hp
   rw [List.getElem?_take] at hp1
   split at hp1
   ·rename_i hpi
    simp only [Src.ev] at hok ⊢
    rw [getD_take _ _ _ _ hpi] at hok ⊢
    exact h.val p t ((hr t p ho hp1).1 hpi) hp1 hok
   ·cases hp1
  ·rename_i hp
   simp only [Option.map_eq_some_iff] at hs
   obtain ⟨n, h1, rfl⟩ := hs
   simp only [Src.ev] at hok ⊢
   refine h.old n t (kr _ _ _ h1) (fun p hp' e => ?_) hok
   by_cases hpi : p < i
   ·exact sk _ _ hp p (by rw [List.getElem?_take, if_pos hpi]; exact e)
   ·exact (hr t p ho e).2 (by omega) hp'
 | const v =>
  simp only [CC.src, Option.map_eq_some_iff] at hs
  obtain ⟨d, h1, rfl⟩ := hs
  exact iD v d h1
 | func f =>
  simp only [CC.src, Option.map_eq_some_iff] at hs
  obtain ⟨n, h1, rfl⟩ := hs
  exact .fn f n #[] [] h1 rfl (fun i hi => by simp at hi)
 | global g => simp [CC.src] at hs
theorem A1 {vs : List aN} {i : aA} {g : Option (Nat × Bool)} (h : A0 vs i g) : wc vs g := by
 cases g with
 | none => trivial
 | some jw => exact h.2
theorem ig {env : List aN} {ops : Array Oper} {VS : List aN} {D : Nat → Prop} {a : Act} {x : X} {i : Nat} {o : Oper} {g : GI} (h : rr C env (ops.toList.map (·.dst)) VS D a x)
  (hg : CC.guard ((ops.toList.map (·.dst)).take i) o.guard = some g.g) (hD : ∀ j w, o.guard = some (j, w) → j < i → D j) (hgok : wc (VS.take i) g.g) : Region.wanted o (yielded ops a.tmps) = flag (VS.take i) g.g := by
 unfold Region.wanted
 cases hog : o.guard with
 | none => simp only [hog, CC.guard, Option.some.injEq] at hg; simp [← hg, flag]
 | some jw =>
  obtain ⟨j, w⟩ := jw
  simp only [hog, CC.guard] at hg
  split at hg
  ·rename_i t hj
   simp only [Option.some.injEq] at hg
   rw [← hg] at hgok ⊢
   rw [List.getElem?_take] at hj
   split at hj
   ·rename_i hji
    have hDj := hD j w hog hji
    have hy : (ops[j]?).bind (·.dst) = some t := by
     rw [List.getElem?_map, Array.getElem?_toList] at hj
     cases ho : ops[j]? with
     | none => simp [ho] at hj
     | some oj => simpa [ho] using hj
    simp only [yielded, hy, Option.bind_some, flag, wc] at hgok ⊢
    rw [getD_take _ _ _ _ hji] at hgok ⊢
    cases hok : (VS.getD j .un).ok with
    | false =>
     have := h.und j t hDj hj hok
     simp only [Array.getD_eq_getD_getElem?] at this
     cases ht : a.tmps[t]? with
     | none => simp
     | some v => simp only [ht, Option.getD_some] at this; subst this; simp [undef]
    | true =>
     have hb := hgok hok
     have hv := h.val j t hDj hj hok
     cases hd : (VS.getD j .un).d <;> simp only [hd, Go.Abs.D.isBool] at hb <;> try cases hb
     rename_i b
     rw [hd] at hv
     have hv := hv.eS
     simp only [Array.getD_eq_getD_getElem?] at hv
     cases ht : a.tmps[t]? with
     | none => simp [ht, undef] at hv
     | some v => simp only [ht, Option.getD_some] at hv; subst hv; simp
   ·cases hj
  ·cases hg
end
end Go.Abs
end
section
namespace Go.Abs
variable [cd]
section
variable {C : CC} {Γ : Ctx} {ρ : Src → aN} {m : List (Nat × bm)} {L : Nat}
theorem pC {i : aA} {l : Nat} (h : l ∉ i.wr ρ L) : look (i.bM Γ ρ m L) l = look m l := by
 cases i <;> simp only [aA.wr, List.mem_cons, List.not_mem_nil, or_false, not_or] at h <;> simp only [aA.bM]
 case box => rw [bt, if_neg h]
 case mkB => rw [bt, if_neg h]
 case bsl => rw [bt, if_neg h]
 case mks => rw [bt, if_neg h]
 case s2b x => split <;> first | rw [bt, if_neg h] | rfl
 case appN k y => rw [bt, if_neg h]
 case rng x => split <;> first | rw [bt, if_neg h] | rfl
 case st n p v =>
  split
  ·rename_i hd; rw [hd] at h; rw [bt, if_neg (by simpa [bW] using h)]
  ·rfl
 case app k x y =>
  split
  ·rename_i hd; rw [hd] at h; rw [bt, if_neg h.1, dJ, if_neg (by simpa [bW] using h.2)]
  ·rw [bt, if_neg h.1]
 case sW x =>
  split
  ·rename_i hd
   rw [hd] at h
   split
   ·rename_i s pos _
    cases decide (pos < s.length) <;> simp only [cond_true, cond_false]
    rw [bt, if_neg (by simpa [bW] using h)]
   ·rfl
  ·rfl
 case callF n r args sh =>
  split
  ·rename_i hd; rw [hd] at h; rw [bt, if_neg (by simpa [bW] using h)]
  ·rfl
theorem gQ {i : aA} (h : i.calm = true) {l : Nat} (hl : l ∈ i.wr ρ L) : l = L := by
 cases i <;> simp_all [aA.calm, aA.wr]
theorem dQ {l k n : Nat} (h : dz m l k n) : look m l ≠ none := by
 intro e; simp [dz, e] at h
theorem Bn {i : aA} (h : i.cV Γ ρ m) {l : Nat} (hl : l ∈ i.wr ρ L) : l = L ∨ look m l ≠ none := by
 cases i <;> simp only [aA.wr, List.mem_cons, List.not_mem_nil, or_false] at hl <;> first
  | exact .inl hl
  | exact hl.elim
  | skip
 case st n p v =>
  right
  obtain ⟨_, _, _, h4⟩ := h
  cases hd : (ρ p).d <;> simp only [hd, bW, List.mem_singleton] at h4 hl
  subst hl
  exact dQ h4.1
 case app k x y =>
  rcases hl with hl | hl
  ·exact .inl hl
  ·right
   obtain ⟨_, _, _, h4⟩ := h
   cases hd : (ρ x).d <;> simp only [hd, bW, List.mem_singleton, List.not_mem_nil] at h4 hl
   subst hl
   exact dQ h4.2.1
 case sW x =>
  right
  obtain ⟨_, h4⟩ := h
  cases hd : (ρ x).d <;> simp only [hd, bW, List.mem_singleton, List.not_mem_nil] at h4 hl
  subst hl
  intro e
  simp [e] at h4
 case callF n r args sh =>
  right
  obtain ⟨_, _, _, h4⟩ := h
  cases hd : (ρ r).d <;> simp only [hd, bW, List.mem_singleton, List.not_mem_nil] at h4 hl
  subst hl
  exact dQ h4.2.2.1
theorem oC {i : aA} (h : i.calm = true ∨ i.cV Γ ρ m) {l : Nat} (hl : look (i.bM Γ ρ m L) l ≠ none) : look m l ≠ none ∨ l = L := by
 by_cases hw : l ∈ i.wr ρ L
 ·rcases h with h | h
  ·exact .inr (gQ h hw)
  ·exact (Bn h hw).symm
 ·left; rwa [pC hw] at hl
omit [cd] in
theorem BN {i : aA} (h : i.pure = true) : i.bM Γ ρ m L = m := by
 cases i <;> simp_all [aA.pure, aA.bM]
omit [cd] in
theorem z6 {i : aA} (h : i.pure = true) : i.calm = true := by
 cases i <;> simp_all [aA.pure, aA.calm]
theorem BO {i : aA} (h : i.pure = true) : i.ki ρ = some [] := by
 cases i <;> simp_all [aA.pure, aA.ki]
theorem zB {i : aA} (h : i.free = true) : i.calm = true := by
 cases i <;> simp_all [aA.free, aA.calm, aA.pure]
theorem C1 {i : aA} (h : i.free = true) : i.wr ρ L = [] := by
 cases i <;> simp_all [aA.free, aA.wr, aA.pure]
theorem AY {i : aA} (h : i.free = true) : i.bM Γ ρ m L = m := by
 cases i <;> simp_all [aA.free, aA.bM, aA.pure]
theorem tW {sh : List Sh} (h : sh.all Sh.F0 = true) : ∀ {d : D}, ey m sh d → d.aL = true := by
 have hL : ∀ (sh : List Sh) (ds : List D), sh.all Sh.F0 = true → iB m sh ds → aH ds = true := by
  intro sh
  induction sh with
  | nil => intro ds _ h; simpa [iB] using h
  | cons s r ih =>
   intro ds h ho
   cases ds with
   | nil => rfl
   | cons d ds =>
    simp only [List.all_cons, Bool.and_eq_true] at h
    simp only [iB] at ho
    have hs : s = .a := by cases s <;> simp_all [Sh.F0]
    subst hs
    simp only [aH, Bool.and_eq_true]
    exact ⟨by simpa [hZ] using ho.1, ih ds h.2 ho.2⟩
 intro d ho
 cases sh with
 | nil => simpa [ey] using ho
 | cons s r =>
  have hs : s = .a := by simp only [List.all_cons, Bool.and_eq_true] at h; cases s <;> simp_all [Sh.F0]
  cases d <;> simp only [ey] at ho <;> first
   | (subst hs; simpa [hZ] using ho)
   | (rw [D.mS]; exact hL _ _ h ho)
theorem pU : ∀ {ss : List (List Sh)} {ds : List D}, ss.all (fun s => s.all Sh.F0) = true → fG m ss ds → aH ds = true
 | ss, [], _, _ => by simp [aH]
 | [], d :: r, h, ho => by
  simp only [fG] at ho
  simp only [aH, Bool.and_eq_true]
  exact ⟨tW (sh := [.a]) rfl ho.1, pU (ss := []) rfl ho.2⟩
 | s :: ss, d :: r, h, ho => by
  simp only [fG] at ho
  simp only [List.all_cons, Bool.and_eq_true] at h
  simp only [aH, Bool.and_eq_true]
  exact ⟨tW h.1 ho.1, pU h.2 ho.2⟩
theorem AZ {i : aA} (h : i.free = true) (ho : i.cV Γ ρ m) : i.ki ρ = some [] := by
 cases i <;> simp only [aA.free] at h <;> try (exact BO h)
 simp only [aA.ki, pU h ho.2.1, cond_true]
theorem r0 {i : aA} (h : i.fF = true) : i.calm = true := by
 cases i <;> simp_all [aA.fF, aA.calm]
theorem zN {i : aA} (h : i.fF = true) : i.ki ρ = some [] := by
 cases i <;> simp_all [aA.fF, aA.ki]
theorem pD {k : Nat} {d : D} (h : uM m k d) {l : Nat} (hl : l ∈ bW d) : look m l ≠ none := by
 cases d <;> simp only [bW, List.mem_singleton, List.not_mem_nil, uM] at h hl
 subst hl
 exact dQ h.2
theorem uX {i : aA} (h : i.cV Γ ρ m) {ls : List Nat} (hls : i.ki ρ = some ls) {l : Nat} (hl : l ∈ ls) : look m l ≠ none := by
 cases i <;> simp only [aA.ki, Option.some.injEq, reduceCtorEq] at hls <;> first
  | (subst hls; exact absurd hl List.not_mem_nil)
  | skip
 case ldU n ag p =>
  subst hls
  obtain ⟨_, h4⟩ := h
  cases hd : (ρ p).d <;> simp only [hd, bW, List.mem_singleton, List.not_mem_nil] at h4 hl
  subst hl
  exact dQ h4.1.1
 case ld n ag p =>
  subst hls
  obtain ⟨_, h4⟩ := h
  cases hd : (ρ p).d <;> simp only [hd, bW, List.mem_singleton, List.not_mem_nil, xg] at h4 hl
  subst hl
  exact dQ h4.1
 case st n p v =>
  subst hls
  obtain ⟨_, _, _, h4⟩ := h
  cases hd : (ρ p).d <;> simp only [hd, bW, List.mem_singleton] at h4 hl
  subst hl
  exact dQ h4.1
 case b2s x =>
  subst hls
  exact pD h.2.2.1 hl
 case app k x y =>
  subst hls
  obtain ⟨_, _, h3, h4⟩ := h
  rw [List.mem_append] at hl
  rcases hl with hl | hl
  ·cases hd : (ρ x).d <;> simp only [hd, bW, List.mem_singleton, List.not_mem_nil] at h4 hl
   subst hl
   exact dQ h4.2.1
  ·exact pD h3 hl
 case appN k y =>
  subst hls
  exact pD h.2.1 hl
 case sW x =>
  subst hls
  obtain ⟨_, h4⟩ := h
  cases hd : (ρ x).d <;> simp only [hd, bW, List.mem_singleton, List.not_mem_nil] at h4 hl
  subst hl
  intro e
  simp [e] at h4
 case call f args sh =>
  cases hn : aH (eB ρ args) <;> simp only [hn, cond_true, cond_false, Option.some.injEq, reduceCtorEq] at hls
  subst hls; exact absurd hl (by simp)
 case callv f args sh =>
  cases hd : (ρ f).d <;> simp only [hd, reduceCtorEq] at hls
  rename_i n caps
  cases hn : aH (eB ρ args ++ caps) <;> simp only [hn, cond_true, cond_false, Option.some.injEq, reduceCtorEq] at hls
  subst hls; exact absurd hl (by simp)
 case callF n r args sh =>
  subst hls
  obtain ⟨_, _, _, h4⟩ := h
  cases hd : (ρ r).d <;> simp only [hd, bW, List.mem_singleton, List.not_mem_nil] at h4 hl
  subst hl
  exact dQ h4.2.2.1
omit [cd] in
theorem tX {draw : Bool} {i : aA} {g : Option (Nat × Bool)} {r : List GI} {env vs : List aN} {st : St} {K : List aN → St → Prop} (h : i.cu = false) (hf : i.qh draw g = true) :
  eX Γ draw (⟨i, g⟩ :: r) env vs st K = (wc vs g ∧ (flag vs g = true → i.cV Γ (Src.ev env vs) st.m ∧
     eX Γ draw r env (vs ++ [⟨true, i.val Γ (Src.ev env vs) st.m (st.nx + vs.length)⟩]) { st with m := i.bM Γ (Src.ev env vs) st.m (st.nx + vs.length) } K) ∧
    (flag vs g = false → eX Γ draw r env (vs ++ [⟨false, .any⟩]) st K)) := by
 cases i <;> first
  | (simp [aA.cu] at h; done)
  | (simp only [eX]; rw [if_pos hf])
omit [cd] in
theorem iV {draw : Bool} {i : aA} {g : Option (Nat × Bool)} {r : List GI} {env vs : List aN} {st : St} {K : List aN → St → Prop} (h : i.cu = false) (hf : i.qh draw g = false) :
  eX Γ draw (⟨i, g⟩ :: r) env vs st K = (A0 vs i g ∧ (flag vs g = true → i.cV Γ (Src.ev env vs) st.m) ∧
   ((flag vs g = true → i.xo draw (Src.ev env vs)) → ∃ d, (flag vs g = true → i.val Γ (Src.ev env vs) st.m (st.nx + vs.length) = d) ∧
     eX Γ draw r env (vs ++ [⟨flag vs g, d⟩]) { st with m := i.bM Γ (Src.ev env vs) st.m (st.nx + vs.length) } K)) := by
 cases i <;> first
  | (simp [aA.cu] at h; done)
  | (simp only [eX]; rw [if_neg (by rw [hf]; simp)])
theorem RD.Ek {ν : List (Nat × Nat)} {x : X} {v : Value} {d : D} (h : RD ν x v d) : (∀ k es, d = .sl k es → es.length ≤ 9223372036854775807) ∧ (∀ l k i n, d = .own l k i n → n ≤ 9223372036854775807) ∧ (∀ s, d = .str s → s.length ≤ 9223372036854775807) := by
 cases h <;> refine ⟨?_, ?_, ?_⟩ <;> intros <;> simp_all [maxLen] <;> omega
theorem AG {i : aA} {draw : Bool} (h : ∀ s, (i = .len s ∨ i = .lenS s) → (draw = true → s.A8 = true) → (ρ s).ok = true → ∃ ν x v, RD ν x v (ρ s).d) : i.xo draw ρ := by
 cases i <;> simp only [aA.xo]
 case len s =>
  cases hb : (draw && !s.A8) <;> simp only [cond_true, cond_false]
  intro hok
  obtain ⟨ν, x, v, hr⟩ := h s (.inl rfl) (fun hd => by simpa [hd] using hb) hok
  obtain ⟨a1, a2, a3⟩ := hr.Ek
  cases hd : (ρ s).d <;> simp only
  ·exact a1 _ _ hd
  ·exact a2 _ _ _ _ hd
 case lenS s =>
  cases hb : (draw && !s.A8) <;> simp only [cond_true, cond_false]
  intro hok
  obtain ⟨ν, x, v, hr⟩ := h s (.inr rfl) (fun hd => by simpa [hd] using hb) hok
  obtain ⟨a1, a2, a3⟩ := hr.Ek
  cases hd : (ρ s).d <;> simp only
  exact a3 _ hd
theorem xU {defs : List (Option Nat)} {o : Oper} {s : Src} (hc : C.op defs o = some (.len s) ∨ C.op defs o = some (.lenS s)) : ∃ p ∈ o.op.operands.toList, C.src defs p = some s := by
 cases ho : o.op with
 | call c =>
  obtain ⟨callee, args, argTypes⟩ := c
  cases callee with
  | builtin bu =>
   cases bu with
   | len =>
    simp only [CC.op, ho] at hc
    split at hc
    ·rename_i p t hargs htys
     refine ⟨p, by simp [Op.operands, Call.operands, hargs], ?_⟩
     split at hc <;> simp_all
    ·simp at hc
   | append => simp only [CC.op, ho] at hc; (repeat' split at hc) <;> simp_all
   | _ => simp [CC.op, ho] at hc
  | value f =>
   cases f with
   | func fid => simp only [CC.op, ho] at hc; (repeat' split at hc) <;> simp_all
   | tmp t => simp only [CC.op, ho] at hc; (repeat' split at hc) <;> simp_all
   | _ => simp [CC.op, ho] at hc
  | invoke r n => simp [CC.op, ho] at hc
 | makeFunc fn fst caps => cases fn <;> simp only [CC.op, ho] at hc <;> (repeat' split at hc) <;> simp_all
 | next it b => cases b <;> simp [CC.op, ho] at hc
 | _ =>
  simp only [CC.op, ho] at hc
  (try (repeat' split at hc)) <;> simp at hc
theorem vb {defs : List (Option Nat)} {o : Oper} {n : Nat} {ss : List Src} (hc : C.op defs o = some (.callM n ss)) :
  ∃ fid args tys, o.op = .call { callee := .value (.func fid), args, argTypes := tys } ∧ cZ C.ν fid = some n ∧ C.bM.contains (2 * n) = true ∧ C.oa defs args.toList = some ss := by
 cases ho : o.op with
 | call c =>
  obtain ⟨callee, args, argTypes⟩ := c
  cases callee with
  | builtin bu =>
   cases bu with
   | len => simp only [CC.op, ho] at hc; (repeat' split at hc) <;> simp_all
   | append => simp only [CC.op, ho] at hc; (repeat' split at hc) <;> simp_all
   | _ => simp [CC.op, ho] at hc
  | value f =>
   cases f with
   | func fid =>
    simp only [CC.op, ho] at hc
    split at hc
    ·rename_i n' ss' h1 h2
     split at hc
     ·rename_i h3
      simp only [Option.some.injEq, aA.callM.injEq] at hc
      obtain ⟨rfl, rfl⟩ := hc
      exact ⟨fid, args, argTypes, rfl, h1, h3, h2⟩
     ·(repeat' split at hc) <;> simp at hc
    ·cases hc
   | tmp t => simp only [CC.op, ho] at hc; (repeat' split at hc) <;> simp_all
   | _ => simp [CC.op, ho] at hc
  | invoke r n => simp [CC.op, ho] at hc
 | makeFunc fn fst caps => cases fn <;> simp only [CC.op, ho] at hc <;> (repeat' split at hc) <;> simp_all
 | next it b => cases b <;> simp [CC.op, ho] at hc
 | _ =>
  simp only [CC.op, ho] at hc
  (try (repeat' split at hc)) <;> simp at hc
theorem te {defs : List (Option Nat)} {o : Oper} {fs : Src} {ss : List Src} (hc : C.op defs o = some (.callvM fs ss)) :
  ∃ t args tys, o.op = .call { callee := .value (.tmp t), args, argTypes := tys } ∧ C.src defs (.tmp t) = some fs ∧ C.oa defs args.toList = some ss := by
 cases ho : o.op with
 | call c =>
  obtain ⟨callee, args, argTypes⟩ := c
  cases callee with
  | builtin bu =>
   cases bu with
   | len => simp only [CC.op, ho] at hc; (repeat' split at hc) <;> simp_all
   | append => simp only [CC.op, ho] at hc; (repeat' split at hc) <;> simp_all
   | _ => simp [CC.op, ho] at hc
  | value f =>
   cases f with
   | func fid => simp only [CC.op, ho] at hc; (repeat' split at hc) <;> simp_all
   | tmp t =>
    simp only [CC.op, ho] at hc
    split at hc
    ·rename_i s' ss' h1 h2
     split at hc
     ·simp only [Option.some.injEq, aA.callvM.injEq] at hc
      obtain ⟨rfl, rfl⟩ := hc
      exact ⟨t, args, argTypes, rfl, h1, h2⟩
     ·simp at hc
    ·cases hc
   | _ => simp [CC.op, ho] at hc
  | invoke r n => simp [CC.op, ho] at hc
 | makeFunc fn fst caps => cases fn <;> simp only [CC.op, ho] at hc <;> (repeat' split at hc) <;> simp_all
 | next it b => cases b <;> simp [CC.op, ho] at hc
 | _ =>
  simp only [CC.op, ho] at hc
  (try (repeat' split at hc)) <;> simp at hc
theorem wC {x : X} {defs : List (Option Nat)} {ev : Operand → Value} {o : Oper} {n : Nat} {ss : List Src} {st : St} {K : D → St → Prop} (hcst : ∀ d, ρ (.c d) = ⟨true, d⟩) (hΓ : Ok C.P C.ν C.bM Γ)
  (hc : C.op defs o = some (.callM n ss)) (hρ : qa C defs ρ ev x o.op.operands.toList) (hok : rb ρ ss) (hs : dm C.ν x (look st.m)) (hfr : dj st x) (htr : Γ.tr n (eB ρ ss) st K) :
  fm C.P x (fun v x' => ∃ d st', K d st' ∧ Step x x' ∧ RD C.ν x' v d ∧ dm C.ν x' (look st'.m) ∧ dj st' x') ((execOp ev o).run C.P x.w) := by
 obtain ⟨fid, args, tys, ho, h1, h3, h2⟩ := vb hc
 have hv := hρ (.func fid) (by simp [ho, Op.operands, Call.operands]) (.c (.fn n [])) (by simp [CC.src, h1]) (by rw [hcst])
 rw [hcst] at hv
 obtain ⟨s1, s2, s3⟩ := dY hρ _ _ (fun o' ho' => by simp only [ho, Op.operands, Call.operands]; simp at ho' ⊢; exact .inr ho') h2 hok
 generalize hep : ev (.func fid) = vf at hv
 cases hv with
 | cT => exact absurd (hΓ.small _ _ h1) (by omega)
 | fn fid' _ cs _ hν hl _ =>
  have hcs : cs = #[] := by apply Array.ext'; simpa using hl
  subst hcs
  have hrun : (execOp ev o).run C.P x.w = (callFunc fid' (args.map ev)).run C.P x.w := by
   simp [execOp, ho, resolve, Deferred.ofValue, invoke, hep]
  rw [hrun]
  refine hΓ.bM fid' n hν x _ (eB ρ ss) st K (by simp; simpa using s2.symm) (fun i hi => ?_) hs hfr htr
  have := s3 i hi
  rwa [← Array.toList_map, bn] at this
theorem zV {x : X} {defs : List (Option Nat)} {ev : Operand → Value} {o : Oper} {fs : Src} {n : Nat} {caps : List D} {ss : List Src} {st : St} {K : D → St → Prop} (hΓ : Ok C.P C.ν C.bM Γ)
  (hc : C.op defs o = some (.callvM fs ss)) (hρ : qa C defs ρ ev x o.op.operands.toList) (hfo : (ρ fs).ok = true) (hd : (ρ fs).d = .fn n caps) (hok : rb ρ ss) (hs : dm C.ν x (look st.m)) (hfr : dj st x) (htr : Γ.tr (uG n) (sZ n (eB ρ ss) caps) st K) :
  fm C.P x (fun v x' => ∃ d st', K d st' ∧ Step x x' ∧ RD C.ν x' v d ∧ dm C.ν x' (look st'.m) ∧ dj st' x') ((execOp ev o).run C.P x.w) := by
 obtain ⟨t, args, tys, ho, h1, h2⟩ := te hc
 have hv := hρ (.tmp t) (by simp [ho, Op.operands, Call.operands]) fs h1 hfo
 rw [hd] at hv
 obtain ⟨s1, s2, s3⟩ := dY hρ _ _ (fun o' ho' => by simp only [ho, Op.operands, Call.operands]; simp at ho' ⊢; exact .inr ho') h2 hok
 have hsz : args.size = (eB ρ ss).length := by simpa using s2.symm
 generalize hep : ev (.tmp t) = vf at hv
 cases hv with
 | fn fid' _ cs _ hν hl hcs =>
  have hn := hΓ.small _ _ hν
  have e1 : uG n = n := by simp [uG, hn]
  have e2 : sZ n (eB ρ ss) caps = eB ρ ss ++ caps := by simp [sZ, hn]
  rw [e1, e2] at htr
  have hrun : (execOp ev o).run C.P x.w = (callFunc fid' (args.map ev ++ cs)).run C.P x.w := by
   simp [execOp, ho, resolve, Deferred.ofValue, invoke, hep]
  rw [hrun]
  refine hΓ.bM fid' n hν x _ (eB ρ ss ++ caps) st K (by simp [hl, hsz]) (fun i hi => ?_) hs hfr htr
  rw [iG, bT]
  simp only [Array.size_map, hsz]
  split
  ·rename_i hlt
   have := s3 i hlt
   rwa [← Array.toList_map, bn] at this
  ·exact hcs _ (by simp at hi; omega)
 | cT fid' n' cs _ hν hl hcs =>
  have e1 : uG (n' + 1000000) = n' := by unfold uG; rw [if_neg (by omega)]; omega
  have e2 : sZ (n' + 1000000) (eB ρ ss) caps = caps ++ eB ρ ss := by unfold sZ; rw [if_neg (by omega)]
  rw [e1, e2] at htr
  have hrun : (execOp ev o).run C.P x.w = (callFunc fid' (cs ++ args.map ev)).run C.P x.w := by
   simp [execOp, ho, resolve, Deferred.ofValue, invoke, hep]
  rw [hrun]
  refine hΓ.bM fid' n' hν x _ (caps ++ eB ρ ss) st K (by simp [hl, hsz]) (fun i hi => ?_) hs hfr htr
  rw [iG, bT]
  rw [hl]
  split
  ·exact hcs i (by assumption)
  ·have := s3 (i - caps.length) (by simp at hi; omega)
   rwa [← Array.toList_map, bn] at this
end
end Go.Abs
end
section
namespace Go.Abs
variable [cd]
section
variable {C : CC} {Γ : Ctx}
theorem dj.up {st : St} {x : X} (h : dj st x) {n : Nat} (hn : st.nx ≤ n) : dj ⟨n, st.m⟩ x :=
 ⟨fun l hl => h.β l (Nat.le_trans hn hl), fun l hl => Nat.lt_of_lt_of_le (h.m l hl) hn⟩
theorem rr.iff {env : List aN} {DD : List (Option Nat)} {VS : List aN} {D D' : Nat → Prop} {a : Act} {x : X} (h : rr C env DD VS D a x) (hD : ∀ p, D' p ↔ D p) : rr C env DD VS D' a x := by
 have : D' = D := funext fun p => propext (hD p)
 subst this; exact h
theorem rr.ext {env : List aN} {DD : List (Option Nat)} {vs : List aN} {a : Act} {x : X} {k : Nat} (e : aN) (h : rr C env DD vs (· < k) a x) (hk : vs.length = k) : rr C env DD (vs ++ [e]) (· < k) a x := by
 have hg : ∀ p, p < k → (vs ++ [e]).getD p .un = vs.getD p .un := fun p hp => by rw [bT, if_pos (by omega)]
 exact ⟨fun p t hp h1 h2 => by rw [hg p hp] at h2 ⊢; exact h.val p t hp h1 h2, fun p t hp h1 h2 => by rw [hg p hp] at h2; exact h.und p t hp h1 h2, h.old, h.size, h.defers⟩
theorem dm.eq {ν : List (Nat × Nat)} {x : X} {f f' : Nat → Option bm} (h : dm ν x f) (e : ∀ l, f' l = f l) : dm ν x f' := by
 have : f' = f := funext e
 subst this; exact h
theorem DN {ops : Array Oper} {l : List GI} (hsp : Spec C ops.toList l) (hΓ : Ok C.P C.ν C.bM Γ) {Q : Exit → Act → World → Prop} {env : List aN} {K : List aN → St → Prop} {x0 : X}
  (hK : ∀ vs' st' a' x', K vs' st' → vs'.length = ops.size → rr C env (ops.toList.map (·.dst)) vs' (· < ops.size) a' x' → Step x0 x' → dm C.ν x' (look st'.m) → dj st' x' → Q .normal a' x'.w) :
  ∀ (n k : Nat) (vs : List aN) (st : St) (x : X) (a : Act), k + n = ops.size → vs.length = k → rr C env (ops.toList.map (·.dst)) vs (· < k) a x → Step x0 x → dm C.ν x (look st.m) → dj ⟨st.nx + k, st.m⟩ x →
   eX Γ false (l.drop k) env vs st K → wpOps C.P ops Q (List.range' k n) a x.w := by
 intro n
 induction n with
 | zero =>
  intro k vs st x a hkn hk hmid hst hs hf hw
  have hlen := hsp.len
  have hd : l.drop k = [] := List.drop_eq_nil_of_le (by simp at hlen; omega)
  rw [hd] at hw
  simp only [eX] at hw
  simp only [List.range'_zero, wpOps]
  obtain rfl : k = ops.size := by omega
  exact hK vs _ a x hw hk hmid hst hs (by rw [hk]; exact hf)
 | succ n ih =>
  intro k vs st x a hkn hk hmid hst hs hf hw
  have hkl : k < ops.size := by omega
  obtain ⟨o, ho⟩ : ∃ o, ops[k]? = some o := ⟨ops[k], by simp [hkl]⟩
  have ho' : ops.toList[k]? = some o := by simpa using ho
  obtain ⟨g, hg1, hg2, hg3⟩ := hsp.op k o ho'
  have hlk : k < l.length := by have := hsp.len; simp at this; omega
  have hdrop : l.drop k = g :: l.drop (k + 1) := by
   rw [List.drop_eq_getElem_cons hlk]
   congr 1
   exact (List.getElem?_eq_some_iff.1 hg1).2
  rw [hdrop] at hw
  have hvt : vs.take k = vs := List.take_of_length_le (by omega)
  have hρ : qa C ((ops.toList.map (·.dst)).take k) (Src.ev env vs) a.eval x o.op.operands.toList := by
   have := hmid.rho (i := k) (os := o.op.operands.toList) (fun t p _ _ => ⟨fun h => h, fun h => by omega⟩)
   rwa [hvt] at this
  have hcst : ∀ d, Src.ev env vs (.c d) = ⟨true, d⟩ := fun _ => rfl
  have hdst : (ops.toList.map (·.dst))[k]? = some o.dst := by rw [List.getElem?_map, ho', Option.map_some]
  have hput : ∀ (e : aN) (v : Value) (x' : X), Le x x' → (e.ok = true → RD C.ν x' v e.d) → (e.ok = false → v = undef) → rr C env (ops.toList.map (·.dst)) (vs ++ [e]) (· < k + 1) (a.put o.dst v) x' := by
   intro e v x' hle h1 h2
   have he : (vs ++ [e]).getD k .un = e := by rw [bT, if_neg (by omega)]; simp [hk]
   refine (hmid.ext e hk).put (i := k) hle hdst (fun t ht => ⟨(hsp.dst k o t ho' ht).1, fun p hp e' => hp (hsp.distinct (by rw [hdst, ht]) e')⟩) (by rw [he]; exact h1) (by rw [he]; exact h2) (fun p => by omega)
  simp only [List.range'_succ, wpOps, ho]
  obtain ⟨i, gd⟩ := g
  by_cases hcm : i.cu = true
  ·cases i <;> simp only [aA.cu] at hcm <;> try cases hcm
   ·rename_i f ss
    simp only [eX] at hw
    obtain ⟨w1, w2, w3⟩ := hw
    have hfl := ig (g := ⟨.callM f ss, gd⟩) hmid hg3 (fun j w _ h => h) (by rw [hvt]; exact w1)
    simp only [hvt] at hfl
    rw [hfl]
    cases hfg : flag vs gd with
    | true =>
     rw [if_pos rfl]
     left
     obtain ⟨w4, w5⟩ := w2 hfg
     rw [hk] at w5
     refine (wC (st := ⟨st.nx + k, st.m⟩) hcst hΓ (by rcases hg2 with h | ⟨_, _, _, h, _⟩ | ⟨_, _, h, _⟩ | ⟨_, _, _, _, h, _⟩ | ⟨_, _, _, h, _⟩; exact h; cases h; cases h; cases h; cases h) hρ w4 hs hf w5).wp (fun v x' hG => ?_)
     obtain ⟨d, st', hK1, hst1, hrd, hs1, hf1⟩ := hG
     obtain ⟨hnx, hw'⟩ := hK1
     refine ih (k + 1) (vs ++ [⟨true, d⟩]) ⟨st'.nx - k, st'.m⟩ x' (a.put o.dst v) (by omega) (by simp [hk]) (hput ⟨true, d⟩ v x' hst1.le (fun _ => hrd) (fun h => by cases h)) (hst.trans hst1) hs1 ?_ hw'
     exact hf1.up (by simp only; omega)
    | false =>
     rw [if_neg (by simp)]
     refine ih (k + 1) (vs ++ [⟨false, .any⟩]) st x (a.put o.dst undef) (by omega) (by simp [hk]) (hput ⟨false, _⟩ undef x (Le.refl x) (fun h => by cases h) (fun _ => rfl)) hst hs ?_ (w3 hfg)
     exact ⟨fun l' hl' => hf.β l' (by have hl'' : st.nx + (k + 1) ≤ l' := hl'; show st.nx + k ≤ l'; omega), fun l' hl' => by have := hf.m l' hl'; simp only at this ⊢; omega⟩
   ·rename_i f ss
    simp only [eX] at hw
    obtain ⟨w1, w0, w2, w3⟩ := hw
    have hgn : gd = none := by
     cases gd with
     | none => rfl
     | some jw => obtain ⟨j, w⟩ := jw; simp [A0, aA.calm] at w1
    have hfl : Region.wanted o (yielded ops a.tmps) = true := by
     rw [ig (g := ⟨.callvM f ss, gd⟩) hmid hg3 (fun j w _ h => h) (by rw [hvt]; exact A1 w1), hgn]; rfl
    rw [if_pos hfl]
    left
    rw [hk] at w3
    cases hd : (Src.ev env vs f).d <;> simp only [hd] at w3
    refine (zV (st := ⟨st.nx + k, st.m⟩) hΓ (by rcases hg2 with h | ⟨_, _, _, h, _⟩ | ⟨_, _, h, _⟩ | ⟨_, _, _, _, h, _⟩ | ⟨_, _, _, h, _⟩; exact h; cases h; cases h; cases h; cases h) hρ w0 hd w2 hs hf w3).wp (fun v x' hG => ?_)
    obtain ⟨d, st', hK1, hst1, hrd, hs1, hf1⟩ := hG
    obtain ⟨hnx, hw'⟩ := hK1
    refine ih (k + 1) (vs ++ [⟨true, d⟩]) ⟨st'.nx - k, st'.m⟩ x' (a.put o.dst v) (by omega) (by simp [hk]) (hput ⟨true, d⟩ v x' hst1.le (fun _ => hrd) (fun h => by cases h)) (hst.trans hst1) hs1 ?_ hw'
    exact hf1.up (by simp only; omega)
  ·have hcm' : i.cu = false := by simpa using hcm
   have hL : x.β (st.nx + k) = none := hf.β _ (Nat.le_refl _)
   have hlL : look st.m (st.nx + k) = none := by
    cases hx : look st.m (st.nx + k) with
    | none => rfl
    | some b => have := hf.m (st.nx + k) (by simp only; rw [hx]; simp); simp only at this; omega
   by_cases hfk : i.qh false gd = true
   ·rw [tX hcm' hfk] at hw
    obtain ⟨w1, w2, w3⟩ := hw
    have hfl := ig (g := ⟨i, gd⟩) hmid hg3 (fun j w _ h => h) (by rw [hvt]; exact w1)
    simp only [hvt] at hfl
    rw [hfl]
    rw [hk] at w2
    cases hfg : flag vs gd with
    | true =>
     rw [if_pos rfl]
     left
     obtain ⟨hob, hw'⟩ := w2 hfg
     have hag : vx (look st.m) st.m (i.ki (Src.ev env vs)) := by
      unfold vx; split <;> intros <;> rfl
     refine (va (L := st.nx + k) hg2 hcm' hΓ hρ hcst hob hs hag hL hlL).wp (fun v x' hG => ?_)
     obtain ⟨g1, g2, g3, g4⟩ := hG
     refine ih (k + 1) (vs ++ [⟨true, _⟩]) _ x' (a.put o.dst v) (by omega) (by simp [hk]) (hput ⟨true, _⟩ v x' g1.le (fun _ => g2) (fun h => by cases h)) (hst.trans g1) ?_ ?_ hw'
     ·refine g3.eq fun l' => ?_
      by_cases hlw : l' ∈ i.wr (Src.ev env vs) (st.nx + k)
      ·simp [eR, hlw]
      ·simp only [eR, hlw, if_false]; exact pC hlw
     ·refine ⟨fun l' hl' => ?_, fun l' hl' => ?_⟩
      ·have hl'' : st.nx + (k + 1) ≤ l' := hl'
       rw [g4 l' (by omega)]; exact hf.β l' (by show st.nx + k ≤ l'; omega)
      ·show l' < st.nx + (k + 1)
       rcases oC (.inr hob) hl' with h | h
       ·have := hf.m l' h; simp only at this; omega
       ·omega
    | false =>
     rw [if_neg (by simp)]
     have hw' := w3 hfg
     refine ih (k + 1) (vs ++ [⟨false, .any⟩]) st x (a.put o.dst undef) (by omega) (by simp [hk]) (hput ⟨false, _⟩ undef x (Le.refl x) (fun h => by cases h) (fun _ => rfl)) hst hs ?_ hw'
     exact ⟨fun l' hl' => hf.β l' (by have hl'' : st.nx + (k + 1) ≤ l' := hl'; show st.nx + k ≤ l'; omega), fun l' hl' => by have := hf.m l' hl'; simp only at this ⊢; omega⟩
   rw [iV hcm' (by simpa using hfk)] at hw
   obtain ⟨w1, w2, w3⟩ := hw
   have hfl := ig (g := ⟨i, gd⟩) hmid hg3 (fun j w _ h => h) (by rw [hvt]; exact A1 w1)
   simp only [hvt] at hfl
   rw [hfl]
   rw [hk] at w3
   cases hfg : flag vs gd with
   | true =>
    rw [if_pos rfl]
    left
    have hob := w2 hfg
    have hasm : i.xo false (Src.ev env vs) := by
     refine AG fun s hs' _ hok => ?_
     obtain ⟨p, hp1, hp2⟩ := xU (C := C) (o := o) (s := s) (defs := (ops.toList.map (·.dst)).take k) (by rcases hs' with rfl | rfl <;> rcases hg2 with h | ⟨_, _, _, h, _⟩ | ⟨_, _, h, _⟩ | ⟨_, _, _, _, h, _⟩ | ⟨_, _, _, h, _⟩ <;> first | exact .inl h | exact .inr h | cases h)
     exact ⟨_, _, _, hρ p hp1 s hp2 hok⟩
    obtain ⟨dv, hdv, hw'⟩ := w3 (fun _ => hasm)
    replace hdv := hdv hfg
    have hag : vx (look st.m) st.m (i.ki (Src.ev env vs)) := by
     unfold vx; split <;> intros <;> rfl
    refine (va (L := st.nx + k) hg2 hcm' hΓ hρ hcst hob hs hag hL hlL).wp (fun v x' hG => ?_)
    obtain ⟨g1, g2, g3, g4⟩ := hG
    rw [hfg] at hw'
    rw [hdv] at g2
    refine ih (k + 1) (vs ++ [⟨true, _⟩]) _ x' (a.put o.dst v) (by omega) (by simp [hk]) (hput ⟨true, _⟩ v x' g1.le (fun _ => g2) (fun h => by cases h)) (hst.trans g1) ?_ ?_ hw'
    ·refine g3.eq fun l' => ?_
     by_cases hlw : l' ∈ i.wr (Src.ev env vs) (st.nx + k)
     ·simp [eR, hlw]
     ·simp only [eR, hlw, if_false]; exact pC hlw
    ·refine ⟨fun l' hl' => ?_, fun l' hl' => ?_⟩
     ·have hl'' : st.nx + (k + 1) ≤ l' := hl'
      rw [g4 l' (by omega)]; exact hf.β l' (by show st.nx + k ≤ l'; omega)
     ·show l' < st.nx + (k + 1)
      rcases oC (.inr hob) hl' with h | h
      ·have := hf.m l' h; simp only at this; omega
      ·omega
   | false =>
    rw [if_neg (by simp)]
    have hcalm : i.calm = true := by
     cases gd with
     | none => simp [flag] at hfg
     | some jw => obtain ⟨j, w⟩ := jw; exact w1.1
    obtain ⟨dv, hdv, hw'⟩ := w3 (fun h => by rw [hfg] at h; cases h)
    rw [hfg] at hw'
    refine ih (k + 1) (vs ++ [⟨false, _⟩]) _ x (a.put o.dst undef) (by omega) (by simp [hk]) (hput ⟨false, _⟩ undef x (Le.refl x) (fun h => by cases h) (fun _ => rfl)) hst ?_ ?_ hw'
    ·refine hs.less fun l' => ?_
     by_cases hlw : l' ∈ i.wr (Src.ev env vs) (st.nx + k)
     ·exact .inr (.inr (by rw [gQ hcalm hlw]; exact hL))
     ·exact .inl (pC hlw)
    ·refine ⟨fun l' hl' => hf.β l' (by have hl'' : st.nx + (k + 1) ≤ l' := hl'; show st.nx + k ≤ l'; omega), fun l' hl' => ?_⟩
     show l' < st.nx + (k + 1)
     rcases oC (Γ := Γ) (.inl hcalm) hl' with h | h
     ·have := hf.m l' h; simp only at this; omega
     ·omega
end
end Go.Abs
end
section
namespace Go.Abs
variable [cd]
section
variable {C : CC} {Γ : Ctx}
structure Trace (Γ : Ctx) (l : List GI) (env : List aN) (nx : Nat) (VS : List aN) (M : Nat → List (Nat × bm)) : Prop where
 step : ∀ (k : Nat) (g : GI), l[k]? = some g → M (k + 1) = g.i.bM Γ (Src.ev env (VS.take k)) (M k) (nx + k)
 stop : ∀ k : Nat, l[k]? = none → M (k + 1) = M k
 ent : ∀ (k : Nat) (g : GI), l[k]? = some g → (VS.getD k .un).ok = flag (VS.take k) g.g ∧ (flag (VS.take k) g.g = true → g.i.val Γ (Src.ev env (VS.take k)) (M k) (nx + k) = (VS.getD k .un).d)
 A0 : ∀ (k : Nat) (g : GI), l[k]? = some g → A0 (VS.take k) g.i g.g
 cV : ∀ (k : Nat) (g : GI), l[k]? = some g → flag (VS.take k) g.g = true → g.i.cV Γ (Src.ev env (VS.take k)) (M k)
 len : VS.length = l.length
 fresh0 : ∀ l', look (M 0) l' ≠ none → l' < nx
theorem sA {env : List aN} {K : List aN → St → Prop} : ∀ (l : List GI) (vs : List aN) (st : St), (∀ g ∈ l, g.i.cu = false) → (∀ g ∈ l, ∀ vs', g.i.xo true (Src.ev env vs')) → eX Γ true l env vs st K →
  ∃ (VS : List aN) (M : Nat → List (Nat × bm)), VS.take vs.length = vs ∧ VS.length = vs.length + l.length ∧ (∀ k, k ≤ vs.length → M k = st.m) ∧ (∀ k, vs.length + l.length ≤ k → M k = M (vs.length + l.length)) ∧
   (∀ (k : Nat) (g : GI), l[k]? = some g → M (vs.length + k + 1) = g.i.bM Γ (Src.ev env (VS.take (vs.length + k))) (M (vs.length + k)) (st.nx + (vs.length + k)) ∧
     ((VS.getD (vs.length + k) .un).ok = flag (VS.take (vs.length + k)) g.g ∧ (flag (VS.take (vs.length + k)) g.g = true → g.i.val Γ (Src.ev env (VS.take (vs.length + k))) (M (vs.length + k)) (st.nx + (vs.length + k)) = (VS.getD (vs.length + k) .un).d)) ∧
     A0 (VS.take (vs.length + k)) g.i g.g ∧ (flag (VS.take (vs.length + k)) g.g = true → g.i.cV Γ (Src.ev env (VS.take (vs.length + k))) (M (vs.length + k)))) ∧
   K VS ⟨st.nx + (vs.length + l.length), M (vs.length + l.length)⟩
 | [], vs, st, _, _, h => ⟨vs, fun _ => st.m, by simp, by simp, fun _ _ => rfl, fun _ _ => rfl, fun k g h => by simp at h, by simpa [eX] using h⟩
 | ⟨i, g⟩ :: r, vs, st, hcm, hasm, h => by
  rw [iV (hcm _ (.head _)) rfl] at h
  obtain ⟨w1, w2, w3⟩ := h
  obtain ⟨dv, hdv, w3⟩ := w3 fun _ => hasm _ (.head _) vs
  obtain ⟨VS, M, a1, a2, a3, a4, a5, a6⟩ := sA r _ _ (fun g hg => hcm g (.tail _ hg)) (fun g hg => hasm g (.tail _ hg)) w3
  simp only [List.length_append, List.length_cons, List.length_nil, Nat.zero_add] at a1 a2 a3 a4 a5 a6
  have b1 : VS.take vs.length = vs := by
   have := congrArg (List.take vs.length) a1
   rw [List.take_take, Nat.min_eq_left (by omega)] at this
   rw [this]; simp
  have b2 : VS.getD vs.length .un = ⟨flag vs g, dv⟩ := by
   have : (VS.take (vs.length + 1)).getD vs.length .un = VS.getD vs.length .un := getD_take _ _ _ _ (by omega)
   rw [← this, a1, bT, if_neg (by omega)]; simp
  refine ⟨VS, fun k => if k ≤ vs.length then st.m else M k, b1, by simp only [List.length_cons]; omega, fun k hk => by simp [hk], fun k hk => ?_, fun k gi hk => ?_, ?_⟩
  ·simp only [List.length_cons] at hk ⊢
   rw [if_neg (by omega), if_neg (by omega), a4 k (by omega), a4 (vs.length + (r.length + 1)) (by omega)]
  ·cases k with
   | zero =>
    simp only [List.getElem?_cons_zero, Option.some.injEq] at hk
    subst hk
    simp only [Nat.add_zero]
    rw [if_neg (by omega), if_pos (by omega), b1, b2, a3 (vs.length + 1) (by omega)]
    exact ⟨rfl, ⟨rfl, hdv⟩, w1, w2⟩
   | succ k =>
    simp only [List.getElem?_cons_succ] at hk
    have := a5 k gi hk
    simp only [show vs.length + 1 + k = vs.length + (k + 1) by omega] at this
    simp only [show ¬ (vs.length + (k + 1) + 1 ≤ vs.length) by omega, show ¬ (vs.length + (k + 1) ≤ vs.length) by omega, if_false]
    exact this
  ·simp only [List.length_cons]
   rw [if_neg (by omega)]
   have e : vs.length + 1 + r.length = vs.length + (r.length + 1) := by omega
   rw [e] at a6
   exact a6
theorem qu {env : List aN} {K : List aN → St → Prop} {l : List GI} {st : St} (hcm : ∀ g ∈ l, g.i.cu = false) (hasm : ∀ g ∈ l, ∀ vs', g.i.xo true (Src.ev env vs')) (hf : ∀ l', look st.m l' ≠ none → l' < st.nx)
  (h : eX Γ true l env [] st K) : ∃ VS M, Trace Γ l env st.nx VS M ∧ M 0 = st.m ∧ K VS ⟨st.nx + l.length, M l.length⟩ := by
 obtain ⟨VS, M, a1, a2, a3, a4, a5, a6⟩ := sA l [] st hcm hasm h
 simp only [List.length_nil, Nat.zero_add] at a1 a2 a3 a4 a5 a6
 refine ⟨VS, M, ⟨fun k g hk => (a5 k g hk).1, fun k hk => ?_, fun k g hk => (a5 k g hk).2.1, fun k g hk => (a5 k g hk).2.2.1, fun k g hk => (a5 k g hk).2.2.2, a2, ?_⟩, a3 0 (Nat.le_refl _), a6⟩
 ·rw [List.getElem?_eq_none_iff] at hk
  rw [a4 (k + 1) (by omega), a4 k hk]
 ·rw [a3 0 (Nat.le_refl _)]; exact hf
section trace
variable {l : List GI} {env : List aN} {nx : Nat} {VS : List aN} {M : Nat → List (Nat × bm)}
theorem Trace.uI (h : Trace Γ l env nx VS M) {k : Nat} {g : GI} (hg : l[k]? = some g) : g.i.calm = true ∨ (g.g = none ∧ g.i.cV Γ (Src.ev env (VS.take k)) (M k)) := by
 cases hc : g.i.calm with
 | true => exact .inl rfl
 | false =>
  right
  have h1 := h.A0 k g hg
  have hn : g.g = none := by
   cases hgg : g.g with
   | none => rfl
   | some jw => obtain ⟨j, w⟩ := jw; rw [hgg] at h1; have := h1.1; rw [hc] at this; cases this
  exact ⟨hn, h.cV k g hg (by rw [hn]; rfl)⟩
theorem Trace.fresh (h : Trace Γ l env nx VS M) : ∀ (k l' : Nat), look (M k) l' ≠ none → l' < nx + k
 | 0, l', hl => h.fresh0 l' hl
 | k + 1, l', hl => by
  cases hg : l[k]? with
  | none =>
   rw [h.stop k hg] at hl
   have := Trace.fresh h k l' hl
   omega
  | some g =>
   rw [h.step k g hg] at hl
   have hco : g.i.calm = true ∨ g.i.cV Γ (Src.ev env (VS.take k)) (M k) := (h.uI hg).imp id (·.2)
   rcases oC hco hl with h1 | h1
   ·have := Trace.fresh h k l' h1
    omega
   ·omega
theorem Trace.fO (h : Trace Γ l env nx VS M) {l' : Nat} : ∀ (n u : Nat), (∀ (q : Nat) (g : GI), u ≤ q → q < u + n → l[q]? = some g → l' ∉ g.i.wr (Src.ev env (VS.take q)) (nx + q)) → look (M (u + n)) l' = look (M u) l'
 | 0, u, _ => rfl
 | n + 1, u, hq => by
  rw [← Trace.fO h n u (fun q g h1 h2 => hq q g h1 (by omega))]
  rw [← Nat.add_assoc]
  cases hg : l[u + n]? with
  | none => rw [h.stop _ hg]
  | some g => rw [h.step _ g hg]; exact pC (hq (u + n) g (by omega) (by omega) hg)
theorem Trace.same (h : Trace Γ l env nx VS M) {l' u v : Nat} (hq : ∀ (q : Nat) (g : GI), min u v ≤ q → q < max u v → l[q]? = some g → l' ∉ g.i.wr (Src.ev env (VS.take q)) (nx + q)) : look (M u) l' = look (M v) l' := by
 rcases Nat.le_total u v with huv | huv
 ·have := h.fO (l' := l') (v - u) u (fun q g h1 h2 => hq q g (by omega) (by omega))
  rw [show u + (v - u) = v by omega] at this
  exact this.symm
 ·have := h.fO (l' := l') (u - v) v (fun q g h1 h2 => hq q g (by omega) (by omega))
  rw [show v + (u - v) = u by omega] at this
  exact this
end trace
theorem nI (acc : List Nat) (p : Nat) : ∀ (es : List Edge), (lC acc es).testBit p = true → ∃ e ∈ es, Region.binds .any e = true ∧ (p = e.on ∨ (acc.getD e.on 0).testBit p = true)
 | [], h => by simp [lC] at h
 | e :: r, h => by
  simp only [lC] at h
  split at h
  ·rename_i hb
   rw [Nat.testBit_or, Bool.or_eq_true, Nat.testBit_or, Bool.or_eq_true] at h
   rcases h with (h | h) | h
   ·refine ⟨e, .head _, hb, .inl ?_⟩
    rw [Nat.testBit_two_pow] at h
    simpa using (of_decide_eq_true h).symm
   ·exact ⟨e, .head _, hb, .inr h⟩
   ·obtain ⟨e', h1, h2⟩ := nI acc p r h
    exact ⟨e', .tail _ h1, h2⟩
  ·obtain ⟨e', h1, h2⟩ := nI acc p r h
   exact ⟨e', .tail _ h1, h2⟩
theorem tt : ∀ (ops : List Oper) (acc : List Nat), (kp acc ops).take acc.length = acc ∧ (kp acc ops).length = acc.length + ops.length ∧
  ∀ (j : Nat) (o : Oper), ops[j]? = some o → (kp acc ops).getD (acc.length + j) 0 = lC ((kp acc ops).take (acc.length + j)) o.after.toList
 | [], acc => ⟨by simp [kp], by simp [kp], fun j o h => by simp at h⟩
 | o :: r, acc => by
  obtain ⟨a1, a2, a3⟩ := tt r (acc ++ [lC acc o.after.toList])
  simp only [List.length_append, List.length_cons, List.length_nil, Nat.zero_add] at a1 a2 a3
  have e : kp acc (o :: r) = kp (acc ++ [lC acc o.after.toList]) r := rfl
  rw [e]
  have b1 : (kp (acc ++ [lC acc o.after.toList]) r).take acc.length = acc := by
   have := congrArg (List.take acc.length) a1
   rw [List.take_take, Nat.min_eq_left (by omega)] at this
   rw [this]; simp
  refine ⟨b1, by simp only [List.length_cons]; omega, fun j o' hj => ?_⟩
  cases j with
  | zero =>
   simp only [List.getElem?_cons_zero, Option.some.injEq] at hj
   subst hj
   rw [Nat.add_zero, b1]
   have : ((kp (acc ++ [lC acc o.after.toList]) r).take (acc.length + 1)).getD acc.length 0 = (kp (acc ++ [lC acc o.after.toList]) r).getD acc.length 0 := getD_take _ _ _ _ (by omega)
   rw [← this, a1, bT, if_neg (by omega)]; simp
  | succ j =>
   simp only [List.getElem?_cons_succ] at hj
   have := a3 j o' hj
   rwa [show acc.length + 1 + j = acc.length + (j + 1) by omega] at this
theorem oB : ∀ (ops : List Oper) (p : Nat), qS p ops = true → ∀ (j : Nat) (o : Oper), ops[j]? = some o → ∀ e ∈ o.after, Region.binds .any e = true → e.on < p + j
 | [], p, _, j, o, h => by simp at h
 | o :: r, p, h, j, o', hj => by
  simp only [qS, Bool.and_eq_true, List.all_eq_true] at h
  cases j with
  | zero =>
   simp only [List.getElem?_cons_zero, Option.some.injEq] at hj
   subst hj
   intro e he hb
   have := h.1 e (by simpa using he)
   simpa [hb] using this
  | succ j =>
   intro e he hb
   have := oB r (p + 1) h.2 j o' (by simpa using hj) e he hb
   omega
def pg (bs : List Nat) (i j : Nat) : Prop := (bs.getD (max j i) 0).testBit (min j i) = true
def ExU (l : List GI) (gj gi : aA) (j i : Nat) : Prop := gj.iJ = true ∧ gi.oL = true ∧ i < j ∧ ∀ q g, i < q → q < j → l[q]? = some g → g.i.calm = true ∨ g.i.iJ = true
structure Order (ops : List Oper) (l : List GI) (bs : List Nat) : Prop where
 bef : ∀ (j : Nat) (o : Oper), ops[j]? = some o → ∀ p, (bs.getD j 0).testBit p = true → ∃ e ∈ o.after, Region.binds .any e = true ∧ (p = e.on ∨ (bs.getD e.on 0).testBit p = true)
 edge : ∀ (j : Nat) (o : Oper), ops[j]? = some o → ∀ e ∈ o.after, Region.binds .any e = true → e.on < j
 reads : ∀ (j p : Nat) (oj op : Oper) (t : Nat), ops[j]? = some oj → ops[p]? = some op → op.dst = some t → t ∈ tmpsOf ops oj → p = j ∨ pg bs p j
 effs : ∀ (j i : Nat) (gj gi : GI), l[j]? = some gj → l[i]? = some gi → gj.i.calm = false → gi.i.free = false → (gi.i.fF = false ∨ gj.i.isApp = true) → i = j ∨ pg bs i j ∨ ExU l gj.i gi.i j i
theorem BA {ops : List Oper} {l : List GI} (h : rE ops l = true) : Order ops l (kp [] ops) := by
 simp only [rE, Bool.and_eq_true] at h
 obtain ⟨h1, h2, _, h4⟩ := h
 obtain ⟨b1, b2, b3⟩ := tt ops []
 simp only [List.length_nil, Nat.zero_add] at b2 b3
 refine ⟨fun j o hj p hp => ?_, fun j o hj e he hb => by simpa using oB ops 0 h4 j o hj e he hb, fun j p oj op t hj hp hd ht => ?_, fun j i gj gi hj hi hc hpu hmk => ?_⟩
 ·rw [b3 j o hj] at hp
  obtain ⟨e, e1, e2, e3⟩ := nI _ _ _ hp
  refine ⟨e, by simpa using e1, e2, e3.imp id fun h => ?_⟩
  by_cases hlt : e.on < j
  ·rwa [getD_take _ _ _ _ hlt] at h
  ·simp only [List.getD, List.getElem?_take, hlt, if_false, Option.getD_none, Nat.zero_testBit] at h; cases h
 ·have hjl : j < ops.length := (List.getElem?_eq_some_iff.1 hj).1
  have hpl : p < ops.length := (List.getElem?_eq_some_iff.1 hp).1
  simp only [yV, List.all_eq_true, List.mem_range] at h1
  have := h1 j hjl p hpl
  simp only [hj, hp, hd, Bool.or_eq_true, beq_iff_eq, Bool.not_eq_true', List.contains_eq_mem, decide_eq_false_iff_not] at this
  rcases this with (h | h) | h
  ·exact .inl h
  ·exact absurd ht h
  ·exact .inr h
 ·have hjl : j < l.length := (List.getElem?_eq_some_iff.1 hj).1
  have hil : i < l.length := (List.getElem?_eq_some_iff.1 hi).1
  simp only [Ed, List.all_eq_true, List.mem_range] at h2
  have := h2 j hjl i hil
  have hm : (gi.i.fF && !gj.i.isApp) = false := by rcases hmk with h | h <;> simp [h]
  simp only [hj, hi, hc, hpu, hm, Bool.false_or, Bool.or_eq_true, beq_iff_eq] at this
  rcases this with (h | h) | h
  ·exact .inl h
  ·exact .inr (.inl h)
  ·right; right
   simp only [exU, Bool.and_eq_true, decide_eq_true_eq, List.all_eq_true, List.mem_range, Bool.or_eq_true] at h
   obtain ⟨x1, x2, x3, x4⟩ := h
   refine ⟨x1, x2, x3, fun q g hq1 hq2 hg => ?_⟩
   have := x4 q hq2
   rw [hg] at this
   rcases this with h | h
   ·omega
   ·simpa using h
theorem Ft {ops : List Oper} {l : List GI} (h : rE ops l = true) : (∀ g ∈ l, g.i.cu = false) ∨ yJ l (kp [] ops) = true := by
 simp only [rE, Bool.and_eq_true, Bool.or_eq_true] at h
 refine h.2.2.1.imp (fun h g hg => ?_) id
 simpa using List.all_eq_true.1 h g hg
theorem xN {l : List GI} {bs : List Nat} (h : yJ l bs = true) : ∃ l' f args, l = l' ++ [⟨.callM f args, none⟩] ∧ (∀ p, p < l'.length → (bs.getD l'.length 0).testBit p = true) ∧ ∀ g ∈ l', g.i.cu = false := by
 unfold yJ at h
 split at h
 ·rename_i f args hl
  rcases List.eq_nil_or_concat l with rfl | ⟨l', g, rfl⟩
  ·cases hl
  ·rw [List.concat_eq_append] at hl h ⊢
   rw [List.getLast?_append, List.getLast?_singleton] at hl
   simp only [Option.some_or, Option.some.injEq] at hl
   subst hl
   simp only [List.length_append, List.length_cons, List.length_nil, Nat.zero_add, Nat.add_sub_cancel, List.dropLast_concat, Bool.and_eq_true, List.all_eq_true, List.mem_range, Bool.not_eq_true'] at h
   exact ⟨l', f, args, rfl, fun p hp => h.1 p hp, fun g hg => h.2 g hg⟩
 ·cases h
theorem Order.pre {ops : List Oper} {o : Oper} {l : List GI} {g : GI} {bs : List Nat} (h : Order (ops ++ [o]) (l ++ [g]) bs) : Order ops l bs := by
 have ho : ∀ {j : Nat} {oj : Oper}, ops[j]? = some oj → (ops ++ [o])[j]? = some oj := fun hj => by
  rw [List.getElem?_append_left (List.getElem?_eq_some_iff.1 hj).1]; exact hj
 have hl : ∀ {j : Nat} {gj : GI}, l[j]? = some gj → (l ++ [g])[j]? = some gj := fun hj => by
  rw [List.getElem?_append_left (List.getElem?_eq_some_iff.1 hj).1]; exact hj
 refine ⟨fun j oj hj => h.bef j oj (ho hj), fun j oj hj => h.edge j oj (ho hj), fun j p oj op t hj hp hd ht => h.reads j p oj op t (ho hj) (ho hp) hd ?_, fun j i gj gi hj hi hc hf hm => ?_⟩
 ·unfold tmpsOf at ht ⊢
  rcases List.mem_append.1 ht with ht | ht
  ·exact List.mem_append_left _ ht
  ·refine List.mem_append_right _ ?_
   split at ht
   ·rename_i q w hq
    cases hx : ops[q]? with
    | none => rw [hx] at ht; cases ht
    | some oq => rw [ho hx]; rw [hx] at ht; exact ht
   ·cases ht
 ·rcases h.effs j i gj gi (hl hj) (hl hi) hc hf hm with e | e | ⟨e1, e2, e3, e4⟩
  ·exact .inl e
  ·exact .inr (.inl e)
  ·exact .inr (.inr ⟨e1, e2, e3, fun q gq hq1 hq2 hg => e4 q gq hq1 hq2 (hl hg)⟩)
theorem wN {d : Bool} {env : List aN} {K : List aN → St → Prop} {b : List GI} : ∀ (a : List GI) (vs : List aN) (st : St), d = true → (∀ g ∈ a, g.i.cu = false) → eX Γ d (a ++ b) env vs st K → eX Γ d a env vs st (fun vs' st' => eX Γ d b env vs' ⟨st'.nx - vs'.length, st'.m⟩ K)
 | [], vs, st, _, _, h => by
  simp only [eX, List.nil_append] at h ⊢
  rw [Nat.add_sub_cancel]
  exact h
 | ⟨i, g⟩ :: r, vs, st, hd, hcm, h => by
  subst hd
  rw [List.cons_append, iV (hcm _ (.head _)) rfl] at h
  rw [iV (hcm _ (.head _)) rfl]
  exact ⟨h.1, h.2.1, fun ha => (h.2.2 ha).imp fun _ h2 => ⟨h2.1, wN r _ _ rfl (fun g hg => hcm g (.tail _ hg)) h2.2⟩⟩
end
end Go.Abs
end
