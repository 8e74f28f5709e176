/- A part of the proofs of the statements: LAsmG, LAsmR, RData, LPlain1, LPlain2, LPlain3, RSpec1, RSpec2, RSpec3, RSpec4, RSpec5, RSpec6, RPrs, RSpec7, RSpec8, RSpec9. -/
import Derived.Test.YtpdlhpamcaocgaaGreatDoorP05
set_option linter.all false
section
namespace Go.Abs
structure HD where
 tr : List D → St → (D → St → Prop) → Prop
 mu : List D → St → Nat
 mono : ∀ (ds : List D) (st : St) (K K' : D → St → Prop), (∀ d st', K d st' → K' d st') → tr ds st K → tr ds st K'
def HD.no : HD := ⟨fun _ _ _ => False, fun _ _ => 0, fun _ _ _ _ _ h => h⟩
def po (af : aI) (Q : D → List (Nat × bm) → Prop) : Ex → List aN → St → Prop := fun e env st => e.home ∧ n4 st.m env af.res ∧ ∃ m1, (∀ i, look st.m i = look m1 i) ∧ Q (gO af env st) m1
theorem eh {af : aI} {Q : D → List (Nat × bm) → Prop} {vd : D} {m1 : List (Nat × bm)} {e : Ex} {env : List aN} {st : St} (h1 : e.home) (h2 : n4 st.m env af.res) (h3 : gO af env st = vd) (h4 : st.m = m1) (h5 : Q vd m1) : po af Q e env st := ⟨h1, h2, m1, fun i => by rw [h4], by rw [h3]; exact h5⟩
section
variable [cd] {P : Program} {ν : List (Nat × Nat)} {bM : List Nat} {Γ : Ctx}
def AB (P : Program) (ν : List (Nat × Nat)) (Γ' : Ctx) (bM : List Nat) (tr : List D → St → (D → St → Prop) → Prop) (fid : Nat) : Prop :=
 ∀ (ds : List D) (st : St) (K : D → St → Prop), tr ds st K → Ok P ν bM Γ' → ∀ (x : X) (args : Array Value), args.size = ds.length → (∀ i, i < ds.length → RD ν x (args.getD i undef) (ds.getD i .any)) → dm ν x (look st.m) → dj st x →
  fm P x (fun v x' => ∃ d st', K d st' ∧ Step x x' ∧ RD ν x' v d ∧ dm ν x' (look st'.m) ∧ dj st' x') ((callFunc fid args).run P x.w)
end
end Go.Abs
end
section
namespace Go.Abs
abbrev RT := List D → D → Prop
abbrev FT := D → List D → D → D → Prop
abbrev TT := List D → St → (D → St → Prop) → Prop
def vA (T : TT) : Prop := ∀ ds st K K', (∀ d st', K d st' → K' d st') → T ds st K → T ds st K'
def uV (A : RT → Prop) : RT := fun ds d => ∀ T, A T → T ds d
def ke (A : FT → Prop) : FT := fun d ds v s => ∀ T, A T → T d ds v s
def B6 (T : TT) : Ctx := ⟨fun _ _ => False, fun _ _ => .any, fun _ => T, fun _ _ _ => False, fun _ _ _ => .any, fun _ _ _ => .any, 0⟩
def xP (C : Ctx → Prop) : TT := fun ds st K => ∀ T, vA T → C (B6 T) → T ds st K
theorem qn (C : Ctx → Prop) : vA (xP C) := fun _ _ _ _ h h1 T hT hC => hT _ _ _ _ h (h1 T hT hC)
def noR : RT := fun _ _ => False
def HR : FT := fun _ _ _ _ => False
def noT : TT := fun _ _ _ => False
theorem sa : vA noT := fun _ _ _ _ _ h => h.elim
structure nG where
 key : Nat
 rel : RT
 mu : List D → Nat
 relF : FT
 tr : TT
 muE : List D → St → Nat
 mono : vA tr
def HQ : List D → Nat := fun _ => 0
def Bf : List D → St → Nat := fun _ _ => 0
def ji : nG := ⟨0, noR, HQ, HR, noT, Bf, sa⟩
def rP (k : Nat) (A : RT → Prop) (mu : List D → Nat := HQ) : nG := ⟨k, uV A, mu, HR, noT, Bf, sa⟩
def rF (k : Nat) (A : FT → Prop) : nG := ⟨k, noR, HQ, ke A, noT, Bf, sa⟩
def rG (k : Nat) (C : Ctx → Prop) (mu : List D → St → Nat := Bf) : nG := ⟨k, noR, HQ, HR, xP C, mu, qn C⟩
def rFG (k : Nat) (A : FT → Prop) (C : Ctx → Prop) : nG := ⟨k, noR, HQ, ke A, xP C, Bf, qn C⟩
noncomputable def pick (r : D → Prop) : D := Classical.epsilon r
theorem gL {r : D → Prop} (h : ∃ d, r d) : r (pick r) := Classical.epsilon_spec h
def G6 (R : RT) : Prop := ∀ ds d d', R ds d → R ds d' → d = d'
def rq (R : FT) : Prop := ∀ d ds v s v' s', R d ds v s → R d ds v' s' → v = v' ∧ s = s'
theorem Fb {A : RT → Prop} (h : A fun ds d => A fun ds' d' => ds' = ds → d = d') : G6 (uV A) := fun ds d d' h1 h2 => h2 _ (h1 _ h) rfl
theorem CU {A : FT → Prop} (h : A fun d ds v s => A fun d' ds' v' s' => d' = d → ds' = ds → v = v' ∧ s = s') : rq (ke A) := fun d ds v s v' s' h1 h2 => h2 _ (h1 _ h) rfl rfl
noncomputable def ta (t : List (Nat × nG)) : Ctx where
 pre n ds := ∃ d, (lk t n ji).rel ds d
 val n ds := pick ((lk t n ji).rel ds)
 tr n := (lk t n ji).tr
 fp n d ds := ∃ v s, (lk t n ji).relF d ds v s
 fv n d ds := pick fun v => ∃ s, (lk t n ji).relF d ds v s
 fs n d ds := pick fun s => ∃ v, (lk t n ji).relF d ds v s
 lo := 0
def BX (t : List (Nat × nG)) : EY := ⟨fun n => (lk t n ji).key, fun n => (lk t n ji).mu, fun n => (lk t n ji).muE⟩
noncomputable abbrev under (t : List (Nat × nG)) (k u : Nat) : Ctx := (ta t).under (BX t) k u
theorem bd (t : List (Nat × nG)) (k u n : Nat) : (((ta t).under (BX t) k u).at n).bN :=
 fun f ds st K K' h hh => ⟨hh.1, (lk t f ji).mono ds st K K' h hh.2⟩
section
variable {t : List (Nat × nG)} {n k u : Nat} {ds : List D} {d v s : D} {st : St} {K : D → St → Prop}
theorem ed (hD : G6 (lk t n ji).rel) (hk : (lk t n ji).key < k ∨ (lk t n ji).key = k ∧ (lk t n ji).mu ds < u) (h : (lk t n ji).rel ds d) : (under t k u).pre n ds ∧ (under t k u).val n ds = d :=
 ⟨⟨hk, d, h⟩, hD _ _ _ (gL ⟨d, h⟩) h⟩
theorem okf (hD : rq (lk t n ji).relF) (hk : (lk t n ji).key < k) (h : (lk t n ji).relF d ds v s) : (under t k u).fp n d ds ∧ (under t k u).fv n d ds = v ∧ (under t k u).fs n d ds = s := by
 refine ⟨⟨.inl hk, v, s, h⟩, ?_, ?_⟩
 ·obtain ⟨s', h'⟩ := gL (r := fun v => ∃ s, (lk t n ji).relF d ds v s) ⟨v, s, h⟩
  exact (hD _ _ _ _ _ _ h' h).1
 ·obtain ⟨v', h'⟩ := gL (r := fun s => ∃ v, (lk t n ji).relF d ds v s) ⟨s, v, h⟩
  exact (hD _ _ _ _ _ _ h' h).2
theorem yS (hk : (lk t n ji).key < k ∨ (lk t n ji).key = k ∧ (lk t n ji).muE ds st < u) (h : (lk t n ji).tr ds st K) : (under t k u).tr n ds st K := ⟨hk, h⟩
end
section
variable [cd] {P : Program} {ν : List (Nat × Nat)} {bM : List Nat} {Γ : Ctx} {t : List (Nat × nG)} {fid n key : Nat}
def yq (P : Program) (ν : List (Nat × Nat)) (bM : List Nat) (Γ : Ctx) (fid : Nat) (ds : List D) (d : D) : Prop := Ok P ν bM Γ → ∀ (x : X) (args : Array Value), args.size = ds.length → (∀ i, i < ds.length → RD ν x (args.getD i undef) (ds.getD i .any)) → aH ds = true →
  (∀ b, x.I b → b < x.w.heap.size) → cd.gd x → fm P x (fun v x' => iX x x' ∧ RD ν x' v d) ((callFunc fid args).run P x.w)
def tl (P : Program) (ν : List (Nat × Nat)) (bM : List Nat) (Γ : Ctx) (fid : Nat) (d : D) (ds : List D) (vd new : D) : Prop := Ok P ν bM Γ → ∀ (x : X) (f : Nat → Option bm) (args : Array Value) (l k : Nat), args.size = ds.length + 1 →
   RD ν x (args.getD 0 undef) (.ptr l k 0 0) → (∀ i, i < ds.length → RD ν x (args.getD (i + 1) undef) (ds.getD i .any)) → dm ν x f → f l = some (.buf k [d]) → d.aL = true → aH ds = true →
   fm P x (fun v x' => Step x x' ∧ RD ν x' v vd ∧ dm ν x' (fun l' => if l' = l then some (.buf k [new]) else f l') ∧ x'.β = x.β) ((callFunc fid args).run P x.w)
def nv (P : Program) (ν : List (Nat × Nat)) (bM : List Nat) (Γ : Ctx) (fid : Nat) (ds : List D) (st : St) (K : D → St → Prop) : Prop := Ok P ν bM Γ → ∀ (x : X) (args : Array Value), args.size = ds.length → (∀ i, i < ds.length → RD ν x (args.getD i undef) (ds.getD i .any)) → dm ν x (look st.m) → dj st x →
  fm P x (fun v x' => ∃ d st', K d st' ∧ Step x x' ∧ RD ν x' v d ∧ dm ν x' (look st'.m) ∧ dj st' x') ((callFunc fid args).run P x.w)
structure FX (P : Program) (ν : List (Nat × Nat)) (bM : List Nat) (t : List (Nat × nG)) (fid n : Nat) : Prop where
 p : ∀ ds d, (lk t n ji).rel ds d → yq P ν bM (under t (lk t n ji).key ((lk t n ji).mu ds)) fid ds d
 f : rq (lk t n ji).relF ∧ ∀ d ds v s, (lk t n ji).relF d ds v s → tl P ν bM (under t (lk t n ji).key ((lk t n ji).mu (d :: ds))) fid d ds v s
 g : ∀ ds st K, (lk t n ji).tr ds st K → nv P ν bM (under t (lk t n ji).key ((lk t n ji).muE ds st)) fid ds st K
theorem okA (hsm : ∀ fid n, cZ ν fid = some n → n < 1000000) (hB : ∀ t, bM.contains (1000000000 + t) = true → t = cd.tB) (h : ∀ fid n, cZ ν fid = some n → FX P ν bM t fid n) : Ok P ν bM (ta t) := by
 refine HS (BX t) hsm hB (fun fid n hn ds hp hok => (h fid n hn).p ds _ (gL hp) hok) (fun fid n hn _ d ds hp hok => ?_) (fun fid n hn ds st K htr hok => (h fid n hn).g ds st K htr hok)
 obtain ⟨v, s, hr⟩ := hp
 obtain ⟨hD, hf⟩ := (h fid n hn).f
 have h2 : (ta t).fv n d ds = v ∧ (ta t).fs n d ds = s := by
  constructor
  ·obtain ⟨s', h'⟩ := gL (r := fun v => ∃ s, (lk t n ji).relF d ds v s) ⟨v, s, hr⟩
   exact (hD _ _ _ _ _ _ h' hr).1
  ·obtain ⟨v', h'⟩ := gL (r := fun s => ∃ v, (lk t n ji).relF d ds v s) ⟨s, v, hr⟩
   exact (hD _ _ _ _ _ _ h' hr).2
 rw [h2.1, h2.2]
 exact hf d ds v s hr hok
theorem yQ {Γ : D → List D → Ctx} : rq HR ∧ ∀ d ds v s, HR d ds v s → tl P ν bM (Γ d ds) fid d ds v s := ⟨fun _ _ _ _ _ _ h => h.elim, fun _ _ _ _ h => h.elim⟩
theorem ch {A : RT → Prop} {mu : List D → Nat} (hr : lk t n ji = rP key A mu) (h : A fun ds d => yq P ν bM (under t key (mu ds)) fid ds d) : FX P ν bM t fid n := by
 refine ⟨?_, ?_, ?_⟩ <;> rw [hr]
 ·exact fun ds d hd => hd (fun ds d => yq P ν bM (under t key (mu ds)) fid ds d) h
 ·exact yQ
 ·exact fun _ _ _ h => h.elim
theorem FB {A : FT → Prop} (hr : lk t n ji = rF key A) (hD : rq (ke A)) (h : A fun d ds v s => tl P ν bM (under t key 0) fid d ds v s) : FX P ν bM t fid n := by
 refine ⟨?_, ?_, ?_⟩ <;> rw [hr]
 ·exact fun _ _ h => h.elim
 ·exact ⟨hD, fun d ds v s hd => hd _ h⟩
 ·exact fun _ _ _ h => h.elim
theorem tH {Γ : List D → St → Ctx} : vA fun ds st K => nv P ν bM (Γ ds st) fid ds st K := fun ds st K K' h hg hok x args hl ha hs hf => (hg hok x args hl ha hs hf).mono fun v x' ⟨d, st', h1, h2⟩ => ⟨d, st', h _ _ h1, h2⟩
theorem sj {C : Ctx → Prop} {mu : List D → St → Nat} (hr : lk t n ji = rG key C mu) (h : C (B6 fun ds st K => nv P ν bM (under t key (mu ds st)) fid ds st K)) : FX P ν bM t fid n := by
 refine ⟨?_, ?_, ?_⟩ <;> rw [hr]
 ·exact fun _ _ h => h.elim
 ·exact yQ
 ·exact fun ds st K hd => hd (fun ds st K => nv P ν bM (under t key (mu ds st)) fid ds st K) tH h
theorem HU {A : FT → Prop} {C : Ctx → Prop} (hr : lk t n ji = rFG key A C) (hD : rq (ke A)) (h : A fun d ds v s => tl P ν bM (under t key 0) fid d ds v s) (h2 : C (B6 fun ds st K => nv P ν bM (under t key 0) fid ds st K)) : FX P ν bM t fid n := by
 refine ⟨?_, ?_, ?_⟩ <;> rw [hr]
 ·exact fun _ _ h => h.elim
 ·exact ⟨hD, fun d ds v s hd => hd _ h⟩
 ·exact fun ds st K hd => hd _ tH h2
def Cj (P : Program) (ν : List (Nat × Nat)) (bM : List Nat) (fid : Nat) (af : aI) : Prop := (P.funcs[fid]?).map (fun f => (compile P ν bM f, f.name == "runtime.NumGoroutine")) = some (some af, false)
theorem Cj.split {af : aI} (h : Cj P ν bM fid af) : ∃ fn, P.funcs[fid]? = some fn ∧ compile P ν bM fn = some af ∧ (fn.name == "runtime.NumGoroutine") = false := by
 unfold Cj at h
 cases hf : P.funcs[fid]? with
 | none => rw [hf] at h; cases h
 | some fn =>
  rw [hf] at h
  have h2 := Option.some.inj h
  exact ⟨fn, rfl, congrArg Prod.fst h2, congrArg Prod.snd h2⟩
theorem bB {af : aI} {ds : List D} {d : D} (hmix : P.follows .mixedOrders = true) (hC : Cj P ν bM fid af) (h1 : ds.length = af.np) (h2 : bo (Γ.at 0) af.body (eC af d) (bF af ds) ⟨0, []⟩) : yq P ν bM Γ fid ds d := by
 intro hok x args hl hargs hnl himm hgd
 obtain ⟨fn, hf, hc, hn⟩ := hC.split
 obtain ⟨body, c1, _⟩ := eD hc
 exact .inr ⟨fid, args, ep hf hn (by rw [c1]; rfl) args x.w, C0 hok hmix hf hc hl hargs hnl himm hgd h1 h2⟩
theorem we {af : aI} {d : D} {ds : List D} {vd new : D} (k0 : Nat) (hmix : P.follows .mixedOrders = true) (hC : Cj P ν bM fid af) (h1 : ds.length + 1 = af.np) (hk : d.cells.length = k0)
  (h2 : bo (Γ.at 1) af.body (zl af k0 vd new) (bF af (.ptr 0 k0 0 0 :: ds)) ⟨1, [(0, .buf k0 [d])]⟩) : tl P ν bM Γ fid d ds vd new := by
 intro hok x f args l k hl h0 hargs hs hfl hd hnl
 obtain ⟨fn, hf, hc, hn⟩ := hC.split
 obtain ⟨body, c1, _⟩ := eD hc
 have hkk : k = k0 := by
  generalize args.getD 0 undef = v0 at h0
  cases h0 with
  | ptr _ _ _ _ b base tot at_ hβ hat =>
   obtain ⟨p1, p2, c, T, fr, p3, p4, p5, p6⟩ := (hs.own l _ b base tot hfl hβ).2
   have := (p6 0 (by simp)).1
   simp only [List.getD_cons_zero] at this
   omega
 subst hkk
 exact .inr ⟨fid, args, ep hf hn (by rw [c1]; rfl) args x.w, CY hok hmix hf hc hl h0 hargs hs hfl hd hnl h1 h2⟩
theorem C2 {k l : Nat} {d : D} {ds : List D} {vd new : D} {st : St} {K : D → St → Prop} (h : tl P ν bM Γ fid d ds vd new) (hl : look st.m l = some (.buf k [d])) (hd : d.aL = true) (hnl : aH ds = true) (hK : K vd ⟨st.nx, cw st.m l (.buf k [new])⟩) :
  nv P ν bM Γ fid (.ptr l k 0 0 :: ds) st K := by
 intro hok x args hl2 hargs hs hf
 refine (h hok x (look st.m) args l k (by simpa using hl2) (hargs 0 (by simp)) (fun i hi => hargs (i + 1) (by simpa using hi)) hs hl hd hnl).mono ?_
 rintro v x' ⟨h1, h2, h3, h4⟩
 have e : (fun l' => if l' = l then some (.buf k [new]) else look st.m l') = look (cw st.m l (.buf k [new])) := by
  funext l'
  rw [bt]
 refine ⟨vd, _, hK, h1, h2, e ▸ h3, fun l' hl' => by rw [h4]; exact hf.β l' hl', fun l' hl' => ?_⟩
 rw [bt] at hl'
 split at hl'
 ·rename_i e; subst e; exact hf.m _ (by rw [hl]; simp)
 ·exact hf.m _ hl'
theorem yF {af : aI} {ds : List D} {st : St} {K : D → St → Prop} {σi : List (Nat × Nat)} {q : Nat} {m0 : List (Nat × bm)} {cs : List D} {Q : D → List (Nat × bm) → Prop} (hmono : ∀ q, (Γ.at q).bN) (hmix : P.follows .mixedOrders = true) (hC : Cj P ν bM fid af)
  (h1 : cs.length = ds.length) (h2 : ∀ i, i < ds.length → Ck 0 σi (ds.getD i .any) (cs.getD i .any)) (h3 : cs.length = af.np)
  (h4 : eQ 0 q σi = true) (h5 : ∀ l i, (l, i) ∈ σi → look st.m l ≠ none) (h6 : ∀ i b, look m0 i = some b → ∃ l b', (l, i) ∈ σi ∧ look st.m l = some b' ∧ nw 0 σi b' b)
  (h7 : bo (Γ.at q) af.body (po af Q) (bF af cs) ⟨q, m0⟩) (h8 : ∀ d m1, Q d m1 → ∃ (σo : List (Nat × Nat)) (q1 : Nat) (st' : St) (vd' : D), Fr σi σo q q1 m0 m1 st st' ∧ Ck 0 σo d vd' ∧ K vd' st') : nv P ν bM Γ fid ds st K := by
 intro hok x args hl hargs hs hfr
 obtain ⟨fn, hf, hc, hn⟩ := hC.split
 obtain ⟨body, c1, _⟩ := eD hc
 refine .inr ⟨fid, args, ep hf hn (by rw [c1]; rfl) args x.w, ?_⟩
 refine Calls.mono (CZ (K := K) hok hmix hf hc hl hargs hs hfr h1 h2 h3 h4 h5 h6 (dL (hmono q) _ _ _ _ _ (fun e env st1 h => ?_) h7)) fun e w' he => ?_
 ·obtain ⟨g1, g2, m1, g3, g4⟩ := h
  obtain ⟨σo, q1, st', vd', k1, k2, k3⟩ := h8 _ _ g4
  exact ⟨g1, g2, σo, q1, m1, st', vd', k1, k2, k3, g3⟩
 ·match e, he with
  | .returned v, he =>
   obtain ⟨x', d, st', g0, g1, g2, g3, g4, g5⟩ := he
   exact ⟨x', g1, d, st', g0, g2, g3, g4, g5⟩
end
end Go.Abs
end
section
namespace Go.Abs
structure aR where
 name : aq
 range : aq
 feats : List aq
 bare : Bool
 deriving Inhabited, DecidableEq
def aR.D (x : aR) : D := .agg [.str x.name, .str x.range, .sl 1 (x.feats.map D.str), .bool x.bare]
structure aJ where
 any : List aR
 when' : aq
 option : aq
 deriving Inhabited, DecidableEq
def aJ.D (x : aJ) : D := .agg [.sl 4 (x.any.map aR.D), .str x.when', .str x.option]
structure ec where
 name : aq
 range : aq
 when' : aq
 deriving Inhabited, DecidableEq
def ec.D (x : ec) : D := .agg [.str x.name, .str x.range, .str x.when']
structure ba where
 name : aq
 of : List aq
 deriving Inhabited, DecidableEq
def ba.D (x : ba) : D := .agg [.str x.name, .sl 1 (x.of.map D.str)]
structure Rec where
 name : aq
 v : dP
 needs : List aJ
 bars : List ec
 feats : List ba
 deriving Inhabited, DecidableEq
def Rec.D (x : Rec) : D := .agg [.str x.name, .int .i64 x.v.major, .int .i64 x.v.minor, .int .i64 x.v.patch, .str x.v.pre, .str x.v.build, .sl 3 (x.needs.map aJ.D), .sl 3 (x.bars.map ec.D), .sl 2 (x.feats.map ba.D)]
structure cL where
 op : Int
 parts : Int
 v : dP
 deriving Inhabited, DecidableEq
def cL.D (x : cL) : D := .agg [.int .i64 x.op, .int .i64 x.parts, .int .i64 x.v.major, .int .i64 x.v.minor, .int .i64 x.v.patch, .str x.v.pre, .str x.v.build]
structure Nd where
 op : Int
 a : Int
 b : Int
 key : Int
 text : aq
 deriving Inhabited, DecidableEq
def Nd.D (x : Nd) : D := .agg [.int .i64 x.op, .int .i64 x.a, .int .i64 x.b, .int .i64 x.key, .str x.text]
theorem ec.eq (a b : ec) : et (ec.D a).cells (ec.D b).cells = decide (a = b) := by
 obtain ⟨a1, a2, a3⟩ := a
 obtain ⟨b1, b2, b3⟩ := b
 simp only [ec.D, D.cells, et, oD, ec.mk.injEq, Bool.and_true]
 simp only [Bool.decide_and]
theorem aR.same {a b : aR} (e1 : a.name = b.name) (e2 : a.range = b.range) (e3 : a.bare = b.bare) : decide (a = b) = decide (a.feats = b.feats) := by
 obtain ⟨a1, a2, a3, a4⟩ := a
 obtain ⟨b1, b2, b3, b4⟩ := b
 simp only at e1 e2 e3
 subst e1; subst e2; subst e3
 simp
def rising (l : List aq) : Bool := bO (fun i => Op.bytesLess l[i - 1]! l[i]!) 1 l.length
def cB (s : aq) : Int × aq × aq :=
 if bZ s = true then (1, s, [])
 else if s.length > 0 ∧ at8 s 0 = 63 ∧ bZ (s.drop 1) = true then (2, s.drop 1, [])
 else if (ar s 47).length = 2 ∧ eW (ar s 47)[0]! = true ∧ bZ (ar s 47)[1]! = true then (3, (ar s 47)[0]!, (ar s 47)[1]!)
 else (0, [], [])
def findF (l : List ba) (nm : aq) (i : Nat) : Int := match (l.drop i).findIdx? (fun x => decide (x.name = nm)) with
 | some k => ((i + k : Nat) : Int)
 | none => -1
theorem AW {l : List ba} {nm : aq} {i : Nat} (h : i < l.length) (he : l[i]!.name = nm) : findF l nm i = (i : Nat) := by
 unfold findF
 rw [List.drop_eq_getElem_cons h, List.findIdx?_cons]
 have : l[i].name = nm := by simpa [h] using he
 simp [this]
theorem AX {l : List ba} {nm : aq} {i : Nat} (h : i < l.length) (he : ¬ l[i]!.name = nm) : findF l nm i = findF l nm (i + 1) := by
 unfold findF
 have : ¬ l[i].name = nm := by simpa [h] using he
 rw [List.drop_eq_getElem_cons h, List.findIdx?_cons]
 simp only [this, decide_false, Bool.false_eq_true, if_false]
 cases (l.drop (i + 1)).findIdx? (fun x => decide (x.name = nm)) with
 | none => rfl
 | some k => simp only [Option.map_some]; congr 1; omega
theorem zA {l : List ba} {nm : aq} {i : Nat} (h : l.length ≤ i) : findF l nm i = -1 := by
 unfold findF
 rw [List.drop_eq_nil_of_le h]; rfl
def HG : aq := [100, 101, 102, 97, 117, 108, 116]
def isF (l : List ba) (nm : aq) : Bool := decide (nm = HG) || decide (0 ≤ findF l nm 0)
def nU (l : List ba) (s : aq) : Bool := !(decide ((cB s).1 = 0) || (decide ((cB s).1 = 1) && !isF l (cB s).2.1))
def uQ (l : List ba) (of : List aq) : Bool := decide (of.length ≤ 6) && rising of && bO (fun i => nU l of[i]!) 0 of.length
def kS (l : List ba) (i : Nat) : Bool := bZ l[i]!.name && !(decide (0 < i) && !Op.bytesLess l[i - 1]!.name l[i]!.name) && uQ l l[i]!.of
def ik (l : List ba) : Bool := decide (l.length ≤ 8) && bO (kS l) 0 l.length
def ba.sm (x : ba) : Prop := x.name.length ≤ 1048576 ∧ x.of.length ≤ 1048576 ∧ ∀ t ∈ x.of, t.length ≤ 1048576
def qU (l : List ba) : Prop := ∀ x ∈ l, x.sm
theorem nV (b t : aq) : ∀ (l : List aq), l ≠ [] → bj b (l ++ [t]) = bj b l ++ b ++ t
 | [], h => absurd rfl h
 | [u], _ => by simp [bj]
 | u :: v :: r, _ => by
  have := nV b t (v :: r) (by simp)
  simp only [List.cons_append, bj] at this ⊢
  rw [this]; simp
theorem xM (b : aq) (l : List aq) (i : Nat) (h : i < l.length) : bj b (l.take (i + 1)) = (if 0 < i then bj b (l.take i) ++ b else []) ++ l[i]! := by
 have e : l.take (i + 1) = l.take i ++ [l[i]!] := by
  rw [List.take_add_one, List.getElem?_eq_getElem h]; simp [h]
 rw [e]
 by_cases h0 : 0 < i
 ·rw [if_pos h0, nV _ _ _ (by intro hn; have := congrArg List.length hn; simp only [List.length_take, List.length_nil] at this; omega)]
 ·obtain rfl : i = 0 := by omega
  simp [bj]
end Go.Abs
namespace Go.Abs
theorem Db {s : aq} (h0 : bZ s = true) : cB s = (1, s, []) := by simp only [cB, if_pos h0]
theorem Dc {s : aq} (h0 : bZ s = false) (h : (0 < (s.length : Int) ∧ at8 s 0 = 63) ∧ bZ (s.drop 1) = true) : cB s = (2, s.drop 1, []) := by
 simp only [cB, h0, Bool.false_eq_true, if_false]
 rw [if_pos ⟨by omega, h.1.2, h.2⟩]
theorem wg {s : aq} (h : (¬ 0 < (s.length : Int) ∨ ¬ at8 s 0 = 63) ∨ bZ (s.drop 1) = false) : ¬ (s.length > 0 ∧ at8 s 0 = 63 ∧ bZ (s.drop 1) = true) := by
 rintro ⟨h1, h2, h3⟩
 rcases h with (h | h) | h
 ·omega
 ·exact h h2
 ·rw [h3] at h; cases h
theorem Dd {s : aq} (h0 : bZ s = false) (h : (¬ 0 < (s.length : Int) ∨ ¬ at8 s 0 = 63) ∨ bZ (s.drop 1) = false) (h2 : (((ar s 47).length : Int) = 2 ∧ eW (ar s 47)[0]! = true) ∧ bZ (ar s 47)[1]! = true) : cB s = ((3 : Int), (ar s 47)[0]!, (ar s 47)[1]!) := by
 simp only [cB, h0, Bool.false_eq_true, if_false]
 rw [if_neg (wg h), if_pos ⟨by omega, h2.1.2, h2.2⟩]
theorem Da {s : aq} (h0 : bZ s = false) (h : (¬ 0 < (s.length : Int) ∨ ¬ at8 s 0 = 63) ∨ bZ (s.drop 1) = false) (h2 : (¬ ((ar s 47).length : Int) = 2 ∨ eW (ar s 47)[0]! = false) ∨ bZ (ar s 47)[1]! = false) : cB s = (0, [], []) := by
 simp only [cB, h0, Bool.false_eq_true, if_false]
 rw [if_neg (wg h), if_neg]
 rintro ⟨g1, g2, g3⟩
 rcases h2 with (h2 | h2) | h2
 ·omega
 ·rw [g2] at h2; cases h2
 ·rw [g3] at h2; cases h2
end Go.Abs
end
namespace Go.Abs
theorem uE (s : aq) (i : Nat) (h : i < s.length) : at8 s i = ((s[i]'h).toNat : Int) := by simp [at8, h]
theorem vG (p : Int → Bool) (s : aq) : bO (fun i => p (at8 s i)) 0 s.length = true ↔ ∀ c ∈ s, p c.toNat = true := by
 rw [en]
 constructor
 ·intro h c hc
  obtain ⟨i, hi, rfl⟩ := List.getElem_of_mem hc
  have := h i (by omega) hi
  rwa [uE s i hi] at this
 ·intro h j _ hj
  rw [uE s j hj]
  exact h _ (List.getElem_mem hj)
theorem mw {b : Int} : ∀ {s cur : aq}, (∀ c ∈ s, (c.toNat : Int) ≠ b) → bq b s cur = [cur ++ s]
 | [], cur, _ => by simp [bq]
 | c :: r, cur, h => by
  simp only [bq]
  rw [if_neg (h c (.head _)), mw (fun d hd => h d (.tail _ hd))]
  simp
theorem sI {b : Int} {x : UInt8} (hx : (x.toNat : Int) = b) (r : aq) : ∀ {w cur : aq}, (∀ c ∈ w, (c.toNat : Int) ≠ b) → bq b (w ++ x :: r) cur = (cur ++ w) :: bq b r []
 | [], cur, _ => by simp [bq, hx]
 | c :: w, cur, h => by
  simp only [List.cons_append, bq]
  rw [if_neg (h c (.head _)), sI hx r (fun d hd => h d (.tail _ hd))]
  simp
theorem qw {b : Int} {x : UInt8} (hx : (x.toNat : Int) = b) : ∀ {ws : List aq}, ws ≠ [] → (∀ w ∈ ws, ∀ c ∈ w, (c.toNat : Int) ≠ b) → ar (bj [x] ws) b = ws
 | [], h, _ => absurd rfl h
 | [w], _, h => by
  show bq b w [] = [w]
  rw [mw (h w (.head _))]; rfl
 | w :: u :: r, _, h => by
  have ih := qw (ws := u :: r) hx (by simp) (fun v hv => h v (.tail _ hv))
  show bq b (w ++ [x] ++ bj [x] (u :: r)) [] = _
  rw [List.append_assoc, List.singleton_append, sI hx _ (h w (.head _))]
  rw [show bq b (bj [x] (u :: r)) [] = u :: r from ih]; rfl
theorem mg {b : Int} {x : UInt8} (hx : (x.toNat : Int) = b) : ∀ (s cur : aq), bj [x] (bq b s cur) = cur ++ s
 | [], cur => by simp [bq, bj]
 | c :: r, cur => by
  simp only [bq]
  split
  ·rename_i h
   rw [eu _ _ _ (by intro h; have := fB b r []; rw [h] at this; simp at this), mg hx r []]
   have : c = x := UInt8.toNat_inj.1 (by omega)
   simp [this]
  ·rw [mg hx r]; simp
theorem jG {b : Int} {x : UInt8} (hx : (x.toNat : Int) = b) (s : aq) : bj [x] (ar s b) = s := by
 unfold ar
 rw [mg hx]; rfl
theorem vV {n : Nat} (h : n < 10) : bc (dg n).toNat = true := by
 have := HH h
 simp only [bc, Bool.and_eq_true, decide_eq_true_eq]; omega
theorem vU {Q : Nat → Prop} (h1 : ∀ n, n < 10 → Q n) (h2 : ∀ n, 9 < n → Q (n / 10) → Q n) (n : Nat) : Q n := by
 induction n using Nat.strongRecOn with
 | ind n ih =>
  by_cases h : n < 10
  ·exact h1 n h
  ·exact h2 n (by omega) (ih _ (by omega))
theorem lV (n : Nat) : ∀ c ∈ gy n, bc c.toNat = true := by
 refine vU (Q := fun n => ∀ c ∈ gy n, bc c.toNat = true) (fun n h c hc => ?_) (fun n h ih c hc => ?_) n
 ·rw [qR h] at hc
  obtain rfl := List.mem_singleton.1 hc
  exact vV h
 ·rw [qQ h] at hc
  rcases List.mem_append.1 hc with hc | hc
  ·exact ih c hc
  ·obtain rfl := List.mem_singleton.1 hc
   exact vV (by omega)
theorem CS (n : Nat) : gy n ≠ [] := by
 refine vU (Q := fun n => gy n ≠ []) (fun n h => ?_) (fun n h ih => ?_) n
 ·rw [qR h]; simp
 ·rw [qQ h]; simp
theorem mM (x : UInt8) : ∀ (ws : List aq) (c : UInt8), c ∈ bj [x] ws → c = x ∨ ∃ w ∈ ws, c ∈ w
 | [], c, h => by simp [bj] at h
 | [w], c, h => .inr ⟨w, .head _, h⟩
 | w :: u :: r, c, h => by
  rw [eu _ _ _ (by simp)] at h
  simp only [List.mem_append, List.mem_singleton] at h
  rcases h with (h | h) | h
  ·exact .inr ⟨w, .head _, h⟩
  ·exact .inl h
  ·rcases mM x (u :: r) c h with h | ⟨v, hv, hc⟩
   ·exact .inl h
   ·exact .inr ⟨v, .tail _ hv, hc⟩
theorem B2 {s : aq} {p : Bool} (h : y9 s p = true) {c : UInt8} (hc : c ∈ s) : ki c.toNat = true ∨ c = 46 := by
 simp only [y9, Bool.or_eq_true, decide_eq_true_eq, jZ, Bool.and_eq_true, en] at h
 rcases h with rfl | ⟨_, h⟩
 ·cases hc
 ·rw [← jG (b := 46) (x := 46) rfl s] at hc
  rcases mM 46 _ c hc with rfl | ⟨w, hw, hcw⟩
  ·exact .inr rfl
  ·left
   obtain ⟨i, hi, rfl⟩ := List.getElem_of_mem hw
   have := h i (by omega) hi
   rw [show (ar s 46)[i]! = (ar s 46)[i] by simp [hi]] at this
   simp only [gu, qK, Bool.and_eq_true] at this
   exact (vG ki _).1 this.1.2 c hcw
theorem AP {c : UInt8} (h : bc c.toNat = true) : c.toNat ≠ 46 ∧ c.toNat ≠ 45 ∧ c.toNat ≠ 43 ∧ c.toNat ≠ 32 ∧ c.toNat ≠ 10 := by
 simp only [bc, Bool.and_eq_true, decide_eq_true_eq] at h; omega
def hv (c : UInt8) : Nat := if bc c.toNat = true then c.toNat - 48 else c.toNat - 87
def qD (s : aq) : Nat := s.foldl (fun n c => n * 16 + hv c) 0
theorem DX {s : aq} (h : bZ s = true) {c : UInt8} (hc : c ∈ s) : uq c.toNat = true := by
 simp only [bZ, Bool.and_eq_true] at h
 exact (vG uq s).1 h.2 c hc
def ph.wf (x : ph) : Prop := 0 ≤ x.sum ∧ x.sum < 18446744073709551616
def vw.wf (l : vw) : Prop := ∀ x ∈ l.lines, x.wf
end Go.Abs
section
namespace Go.Abs
theorem qx {b : Int} {x : UInt8} (hx : (x.toNat : Int) = b) : ∀ (s cur : aq), bq b s cur = match s.findIdx? (fun c => c == x) with
  | some k => (cur ++ s.take k) :: bq b (s.drop (k + 1)) []
  | none => [cur ++ s]
 | [], cur => by simp [bq]
 | c :: r, cur => by
  simp only [bq, List.findIdx?_cons]
  by_cases h : c = x
  ·subst h
   rw [if_pos hx]; simp
  ·have h1 : ¬ (c.toNat : Int) = b := fun e => h (UInt8.toNat_inj.1 (by omega))
   have h2 : (c == x) = false := by simpa using h
   rw [if_neg h1, h2, qx hx r (cur ++ [c])]
   cases r.findIdx? (fun c => c == x) with
   | none => simp
   | some k => simp
theorem uh (s : aq) (x : UInt8) : ar s x.toNat = if (dN s x).2.2 = true then (dN s x).1 :: ar (dN s x).2.1 x.toNat else [s] := by
 unfold ar dN
 rw [qx (x := x) rfl]
 cases s.findIdx? (fun c => c == x) with
 | none => simp
 | some k => simp
theorem uc {s : aq} : (((dN s 47).2.2 = true ∧ eW (dN s 47).1 = true) ∧ bZ (dN s 47).2.1 = true) ↔ (((ar s 47).length : Int) = 2 ∧ eW (ar s 47)[0]! = true) ∧ bZ (ar s 47)[1]! = true := by
 have h := uh s 47
 rw [show (((47 : UInt8).toNat : Nat) : Int) = 47 from rfl] at h
 by_cases hc : (dN s 47).2.2 = true
 ·rw [if_pos hc] at h
  rw [h]
  have hj := jG (b := 47) (x := 47) rfl (dN s 47).2.1
  constructor
  ·rintro ⟨⟨_, h1⟩, h2⟩
   have h3 : ar (dN s 47).2.1 47 = [(dN s 47).2.1] := by
    show bq 47 _ [] = _
    rw [mw (fun c hc => ?_)]
    ·rfl
    ·have := DX h2 hc
     simp only [uq, gz, bc, Bool.or_eq_true, Bool.and_eq_true, decide_eq_true_eq] at this; omega
   rw [h3]
   exact ⟨⟨rfl, h1⟩, h2⟩
  ·rintro ⟨⟨h1, h2⟩, h3⟩
   refine ⟨⟨hc, h2⟩, ?_⟩
   generalize ar (dN s 47).2.1 47 = q at hj h1 h3
   match q, h1 with
   | [y], _ =>
    have : y = (dN s 47).2.1 := hj
    rw [← this]; exact h3
   | [], h1 => simp at h1
   | _ :: _ :: _, h1 => simp at h1; omega
 ·rw [if_neg hc] at h
  rw [h]
  constructor
  ·rintro ⟨⟨h1, _⟩, _⟩; exact absurd h1 hc
  ·rintro ⟨⟨h1, _⟩, _⟩; simp at h1
theorem wq {s : aq} : (cX s [63]).2 = true ↔ 0 < (s.length : Int) ∧ at8 s 0 = 63 := by
 match s with
 | [] => simp [cX, List.isPrefixOf]
 | c :: r =>
  have e : ((c.toNat : Int) = 63) ↔ c = 63 := ⟨fun h => UInt8.toNat_inj.1 (by have : (63 : UInt8).toNat = 63 := rfl; omega), fun h => by subst h; rfl⟩
  simp only [cX, List.isPrefixOf, Bool.and_true, at8, List.getD_cons_zero, List.length_cons]
  by_cases h : c = 63
  ·subst h; simp
  ·have : ¬ (c.toNat : Int) = 63 := fun h2 => h (e.1 h2)
   have h3 : ((63 : UInt8) == c) = false := by simpa using fun h2 => h h2.symm
   simp [h3, this]
theorem tN {s : aq} (h : (cX s [63]).2 = true) : (cX s [63]).1 = s.drop 1 := by
 unfold cX at h ⊢
 split at h
 ·rename_i hp; rw [if_pos hp]; rfl
 ·cases h
theorem Df {s : aq} (h0 : bZ s = false) (h : (cX s [63]).2 = true ∧ bZ (cX s [63]).1 = true) : cB s = (2, (cX s [63]).1, []) := by
 rw [tN h.1] at h ⊢
 exact Dc h0 ⟨wq.1 h.1, h.2⟩
theorem yH {s : aq} (h : (cX s [63]).2 = false ∨ bZ (cX s [63]).1 = false) : (¬ 0 < (s.length : Int) ∨ ¬ at8 s 0 = 63) ∨ bZ (s.drop 1) = false := by
 by_cases hp : (cX s [63]).2 = true
 ·rw [tN hp] at h
  rcases h with h | h
  ·rw [hp] at h; cases h
  ·exact .inr h
 ·have := fun h2 => hp (wq.2 h2)
  by_cases h1 : 0 < (s.length : Int)
  ·exact .inl (.inr fun h2 => this ⟨h1, h2⟩)
  ·exact .inl (.inl h1)
theorem Dg {s : aq} (h0 : bZ s = false) (h : (cX s [63]).2 = false ∨ bZ (cX s [63]).1 = false) (h2 : ((dN s 47).2.2 = true ∧ eW (dN s 47).1 = true) ∧ bZ (dN s 47).2.1 = true) : cB s = ((3 : Int), (dN s 47).1, (dN s 47).2.1) := by
 have h3 := uc.1 h2
 rw [Dd h0 (yH h) h3]
 have hs := uh s 47
 rw [show (((47 : UInt8).toNat : Nat) : Int) = 47 from rfl, if_pos h2.1.1] at hs
 have hj := jG (b := 47) (x := 47) rfl (dN s 47).2.1
 have hl := h3.1.1
 rw [hs] at hl ⊢
 generalize ar (dN s 47).2.1 47 = q at hj hl
 match q, hl with
 | [y], _ =>
  have : y = (dN s 47).2.1 := hj
  rw [← this]; rfl
 | [], h1 => simp at h1
 | _ :: _ :: _, h1 => simp at h1; omega
theorem De {s : aq} (h0 : bZ s = false) (h : (cX s [63]).2 = false ∨ bZ (cX s [63]).1 = false) (h2 : ((dN s 47).2.2 = false ∨ eW (dN s 47).1 = false) ∨ bZ (dN s 47).2.1 = false) : cB s = (0, [], []) := by
 refine Da h0 (yH h) ?_
 have hn : ¬ ((((ar s 47).length : Int) = 2 ∧ eW (ar s 47)[0]! = true) ∧ bZ (ar s 47)[1]! = true) := fun h3 => by
  obtain ⟨⟨g1, g2⟩, g3⟩ := uc.2 h3
  rcases h2 with (h2 | h2) | h2
  ·rw [g1] at h2; cases h2
  ·rw [g2] at h2; cases h2
  ·rw [g3] at h2; cases h2
 by_cases k1 : ((ar s 47).length : Int) = 2
 ·by_cases k2 : eW (ar s 47)[0]! = true
  ·right
   cases k3 : bZ (ar s 47)[1]! with
   | false => rfl
   | true => exact absurd ⟨⟨k1, k2⟩, k3⟩ hn
  ·exact .inl (.inr (by simpa using k2))
 ·exact .inl (.inl k1)
end Go.Abs
namespace Go.Abs
theorem zx {l : List ba} {i : Nat} (h : (!bZ l[i]!.name || (decide ((0 : Int) < (i : Int)) && !Op.bytesLess l[i - 1]!.name l[i]!.name) || decide ((6 : Int) < (l[i]!.of.length : Int)) || !rising l[i]!.of) = false) :
  kS l i = bO (fun j => nU l l[i]!.of[j]!) 0 l[i]!.of.length := by
 simp only [Bool.or_eq_false_iff, Bool.not_eq_false', decide_eq_false_iff_not] at h
 obtain ⟨⟨⟨h1, h2⟩, h3⟩, h4⟩ := h
 have e : (decide (0 < i) && !Op.bytesLess l[i - 1]!.name l[i]!.name) = false := by
  rw [show decide (0 < i) = decide ((0 : Int) < (i : Int)) from decide_eq_decide.2 (by omega)]; exact h2
 simp only [kS, uQ, h1, e, h4]
 rw [decide_eq_true (by omega)]; rfl
theorem zw {l : List ba} {i : Nat} (h : (!bZ l[i]!.name || (decide ((0 : Int) < (i : Int)) && !Op.bytesLess l[i - 1]!.name l[i]!.name) || decide ((6 : Int) < (l[i]!.of.length : Int)) || !rising l[i]!.of) = true) :
  kS l i = false := by
 have e : decide ((0 : Int) < (i : Int)) = decide (0 < i) := decide_eq_decide.2 (by omega)
 have e6 : decide ((6 : Int) < (l[i]!.of.length : Int)) = !decide (l[i]!.of.length ≤ 6) := by
  by_cases h6 : l[i]!.of.length ≤ 6
  ·rw [decide_eq_true h6, decide_eq_false (by omega)]; rfl
  ·rw [decide_eq_false h6, decide_eq_true (by omega)]; rfl
 rw [e, e6] at h
 simp only [kS, uQ]
 revert h
 generalize bZ l[i]!.name = a
 generalize (decide (0 < i) && !Op.bytesLess l[i - 1]!.name l[i]!.name) = b
 generalize decide (l[i]!.of.length ≤ 6) = c
 generalize rising l[i]!.of = d
 cases a <;> cases b <;> cases c <;> cases d <;> simp
end Go.Abs
end
section
namespace Go.Abs
def cP (op : Int) : aq := if op = 1 then [61] else if op = 2 then [33, 61] else if op = 3 then [60] else if op = 4 then [60, 61] else if op = 5 then [62] else if op = 6 then [62, 61] else if op = 7 then [94] else if op = 8 then [126] else []
theorem ub (op : Int) : (cP op).length ≤ 2 := by
 unfold cP
 repeat' split
 all_goals decide
def py (s w : aq) : Bool := decide (w.length ≤ s.length) && decide (s.take w.length = w)
def lH (c : cL) : Bool := (decide (0 < c.parts) || decide (c.v.major = 0)) && (decide (1 < c.parts) || decide (c.v.minor = 0)) && (decide (2 < c.parts) || decide (c.v.patch = 0))
def jt (c : cL) : Bool := decide (1 ≤ c.op) && decide (c.op ≤ 9) && jo c.v && decide (c.v.build = []) && decide ((if c.op = 9 then 0 else 1) ≤ c.parts) && decide (c.parts ≤ if c.op = 9 then 2 else 3) && (decide (3 ≤ c.parts) || decide (c.v.pre = [])) && lH c
def cL.sm (c : cL) : Prop := c.v.sm
theorem AK {c : cL} (h : (decide (c.op < 1) || decide (9 < c.op) || !jo c.v || !decide (c.v.build = [])) = true) : jt c = false := by
 unfold jt
 rw [show decide (c.op < 1) = !decide (1 ≤ c.op) by rw [← decide_not]; exact decide_eq_decide.2 (by omega), show decide (9 < c.op) = !decide (c.op ≤ 9) by rw [← decide_not]; exact decide_eq_decide.2 (by omega)] at h
 revert h
 generalize decide (1 ≤ c.op) = a1
 generalize decide (c.op ≤ 9) = a2
 generalize jo c.v = a3
 generalize decide (c.v.build = []) = a4
 cases a1 <;> cases a2 <;> cases a3 <;> cases a4 <;> simp
theorem zq {c : cL} (h : (decide (c.op < 1) || decide (9 < c.op) || !jo c.v || !decide (c.v.build = [])) = false) : 1 ≤ c.op ∧ c.op ≤ 9 ∧ jo c.v = true ∧ c.v.build = [] := by
 simp only [Bool.or_eq_false_iff, decide_eq_false_iff_not, Bool.not_eq_false', decide_eq_true_eq] at h
 exact ⟨by omega, by omega, h.1.2, h.2⟩
end Go.Abs
namespace Go.Abs
theorem tw {c : cL} (hy : 1 ≤ c.op ∧ c.op ≤ 9 ∧ jo c.v = true ∧ c.v.build = []) {lo hi : Int} (hlo : (if c.op = 9 then 0 else 1) = lo) (hhi : (if c.op = 9 then 2 else 3) = hi) :
  jt c = (!(decide (c.parts < lo) || decide (hi < c.parts) || (decide (c.parts < 3) && !decide (c.v.pre = []))) && lH c) := by
 obtain ⟨h1, h2, h3, h4⟩ := hy
 unfold jt
 rw [decide_eq_true h1, decide_eq_true h2, h3, decide_eq_true h4, hlo, hhi]
 rw [show decide (c.parts < lo) = !decide (lo ≤ c.parts) by rw [← decide_not]; exact decide_eq_decide.2 (by omega), show decide (hi < c.parts) = !decide (c.parts ≤ hi) by rw [← decide_not]; exact decide_eq_decide.2 (by omega), show decide (c.parts < 3) = !decide (3 ≤ c.parts) by rw [← decide_not]; exact decide_eq_decide.2 (by omega)]
 generalize decide (lo ≤ c.parts) = a1
 generalize decide (c.parts ≤ hi) = a2
 generalize decide (3 ≤ c.parts) = a3
 generalize decide (c.v.pre = []) = a4
 cases a1 <;> cases a2 <;> cases a3 <;> cases a4 <;> simp
end Go.Abs
namespace Go.Abs
def cL.ir (c : cL) : List Int := [c.v.major, c.v.minor, c.v.patch]
def dq (c : cL) : Nat → aq
 | 0 => []
 | i + 1 => dq c i ++ (if 0 < i then [46] else []) ++ gy (c.ir[i]!).toNat
def jn (c : cL) : aq := if c.op = 9 then (if 0 < c.parts then [46] else []) ++ [42] else if c.v.pre = [] then [] else 45 :: c.v.pre
def ja (c : cL) : aq := cP c.op ++ dq c c.parts.toNat ++ jn c
def du (c : cL) : aq := if jt c = true then ja c else []
theorem wB {c : cL} (h : jo c.v = true) (i : Nat) : 0 ≤ c.ir[i]! ∧ c.ir[i]! ≤ 9999 := by
 simp only [jo, uO, Bool.and_eq_true, decide_eq_true_eq] at h
 match i with
 | 0 => exact h.1.1.1.1
 | 1 => exact h.1.1.1.2
 | 2 => exact h.1.1.2
 | k + 3 => exact (by simp [cL.ir] : 0 ≤ c.ir[k + 3]! ∧ c.ir[k + 3]! ≤ 9999)
theorem pP {c : cL} (h : jo c.v = true) : ∀ i, (dq c i).length ≤ 5 * i
 | 0 => by simp [dq]
 | i + 1 => by
  have := pP h i
  have hn := wB h i
  have := eU 4 (c.ir[i]!).toNat (by omega) (by omega)
  simp only [dq, List.length_append]
  split
  ·simp only [List.length_singleton]; omega
  ·simp only [List.length_nil]; omega
theorem lU {c : cL} (h : jt c = true) : jo c.v = true ∧ 0 ≤ c.parts ∧ c.parts ≤ 3 ∧ 1 ≤ c.op ∧ c.op ≤ 9 := by
 simp only [jt, Bool.and_eq_true, decide_eq_true_eq] at h
 obtain ⟨⟨⟨⟨⟨⟨⟨h1, h2⟩, h3⟩, h4⟩, h5⟩, h6⟩, h7⟩, h8⟩ := h
 refine ⟨h3, ?_, ?_, h1, h2⟩
 ·split at h5 <;> omega
 ·split at h6 <;> omega
end Go.Abs
namespace Go.Abs
def nD (c : cL) : List aq := (c.ir.map fun n => gy n.toNat).take c.parts.toNat
theorem tV (c : cL) : ∀ i, i ≤ 3 → bj [46] ((c.ir.map fun n => gy n.toNat).take i) = dq c i
 | 0, _ => by simp [bj, dq]
 | i + 1, h => by
  have hl : i < (c.ir.map fun n => gy n.toNat).length := by simp [cL.ir]; omega
  have hl2 : i < c.ir.length := by show i < 3; omega
  rw [xM _ _ _ hl, tV c i (by omega)]
  simp only [dq]
  have e : (c.ir.map fun n => gy n.toNat)[i]! = gy (c.ir[i]!).toNat := by simp [hl2]
  rw [e]
  split
  ·simp
  ·obtain rfl : i = 0 := by omega
   simp [dq]
theorem B5 {c : cL} (h : c.parts ≤ 3) : (nD c).length = c.parts.toNat := by
 simp [nD, cL.ir]; omega
theorem Ak {c : cL} (h : c.parts ≤ 3) : bj [46] (nD c) = dq c c.parts.toNat := tV c _ (by omega)
theorem um {c : cL} (h0 : 0 ≤ c.parts) (h : c.parts ≤ 3) : bj [46] (nD c ++ [[42]]) = dq c c.parts.toNat ++ ((if 0 < c.parts then [46] else []) ++ [42]) := by
 by_cases hp : 0 < c.parts
 ·rw [nV _ _ _ (by intro hn; have := congrArg List.length hn; rw [B5 h] at this; simp only [List.length_nil] at this; omega), Ak h, if_pos hp]; simp
 ·have : c.parts.toNat = 0 := by omega
  rw [if_neg hp, this]
  have e : nD c = [] := by simp [nD, this]
  rw [e]; rfl
end Go.Abs
namespace Go.Abs
def opsL : List Int := [2, 4, 6, 1, 3, 5, 7, 8]
def nX (s : aq) (i : Nat) : Option Int := (opsL.drop i).find? fun o => py s (cP o)
def ix (s : aq) : Int × aq := match nX s 0 with
 | some o => (o, s.drop (cP o).length)
 | none => if 0 < s.length ∧ at8 s (s.length - 1) = 42 then (9, s) else (7, s)
theorem Dr {s : aq} {i : Nat} (h : i < 8) (hb : py s (cP opsL[i]!) = true) : nX s i = some opsL[i]! := by
 have hl : i < opsL.length := h
 unfold nX
 rw [List.drop_eq_getElem_cons hl, List.find?_cons]
 rw [show opsL[i]! = opsL[i] by simp [hl]] at hb ⊢
 rw [hb]
theorem Ds {s : aq} {i : Nat} (h : i < 8) (hb : py s (cP opsL[i]!) = false) : nX s i = nX s (i + 1) := by
 have hl : i < opsL.length := h
 unfold nX
 rw [List.drop_eq_getElem_cons hl, List.find?_cons]
 rw [show opsL[i]! = opsL[i] by simp [hl]] at hb
 rw [hb]
theorem Br {s : aq} {i : Nat} (h : 8 ≤ i) : nX s i = none := by
 unfold nX
 rw [List.drop_eq_nil_of_le h]; rfl
def fu (s : aq) (i : Nat) : aq × aq := match (s.drop i).findIdx? (fun c => c == 45) with
 | some k => (s.take (i + k), s.drop (i + k + 1))
 | none => (s, [])
theorem DA {s : aq} {i : Nat} (h : i < s.length) (he : at8 s i = 45) : fu s i = (s.take i, s.drop (i + 1)) := by
 unfold fu
 rw [mK s i h, List.findIdx?_cons]
 have : s.getD i 0 = 45 := UInt8.toNat_inj.1 (by simp only [at8] at he; show (s.getD i 0).toNat = 45; omega)
 rw [this]; rfl
theorem DB {s : aq} {i : Nat} (h : i < s.length) (he : ¬ at8 s i = 45) : fu s i = fu s (i + 1) := by
 unfold fu
 rw [mK s i h, List.findIdx?_cons]
 have : (s.getD i 0 == 45) = false := by
  rw [beq_eq_false_iff_ne]
  intro e
  exact he (by simp only [at8, e]; rfl)
 rw [this]
 simp only [Bool.false_eq_true, if_false]
 cases (s.drop (i + 1)).findIdx? (fun c => c == 45) with
 | none => rfl
 | some k => simp only [Option.map_some]; rw [show i + (k + 1) = i + 1 + k by omega]
theorem BI {s : aq} {i : Nat} (h : s.length ≤ i) : fu s i = (s, []) := by
 unfold fu
 rw [List.drop_eq_nil_of_le h]; rfl
end Go.Abs
namespace Go.Abs
def fq (l : List aq) : Bool := decide (l.length ≤ 3) && bO (fun i => gA l[i]!) 0 l.length
def numV (l : List aq) : dP := ⟨if 0 < l.length then dx l[0]! else 0, if 1 < l.length then dx l[1]! else 0, if 2 < l.length then dx l[2]! else 0, [], []⟩
end Go.Abs
namespace Go.Abs
def dk : cL := ⟨0, 0, iy⟩
def Eo (op : Int) (l : List aq) : List aq := if op = 9 then l.take (l.length - 1) else l
def ny (op : Int) (l : List aq) (pre : aq) : cL := ⟨op, (l.length : Nat), { numV l with pre := pre }⟩
def Bo (s : aq) (op : Int) (l : List aq) (pre : aq) : Bool := fq l && !(decide (du (ny op l pre) = []) || (!decide (du (ny op l pre) = s) && !decide (du (ny op l pre) = 94 :: s)))
def eM (s : aq) : Option cL :=
 let o := ix s
 let p := fu o.2 0
 let l := Eo o.1 (ar p.1 46)
 if Bo s o.1 l p.2 = true then some (ny o.1 l p.2) else none
theorem yc (s : aq) : (ix s).2.length ≤ s.length := by
 unfold ix
 split
 ·simp
 ·split <;> exact Nat.le_refl _
theorem wI (s : aq) : (fu s 0).1.length ≤ s.length ∧ (fu s 0).2.length ≤ s.length := by
 unfold fu
 split <;> simp <;> omega
end Go.Abs
namespace Go.Abs
def cj (s : aq) : Int × aq := match nX s 0 with
 | some o => (o, s.drop (cP o).length)
 | none => (9, s)
def cU (s : aq) : aq × aq := fu (cj s).2 0
def cK (s : aq) : List aq := Eo (cj s).1 (ar (cU s).1 46)
def jm (s : aq) : Prop := (cj s).1 = 9 → (ar (cU s).1 46)[(ar (cU s).1 46).length - 1]! = [42]
instance (s : aq) : Decidable (jm s) := by unfold jm; exact inferInstance
def cQ (s : aq) : cL := ny (cj s).1 (cK s) (cU s).2
def dA (s : aq) : Option cL := if jm s ∧ fq (cK s) = true ∧ jt (cQ s) = true ∧ du (cQ s) = s then some (cQ s) else none
def yR (l : List aq) (i : Nat) : dP := ⟨if 0 < i then dx l[0]! else 0, if 1 < i then dx l[1]! else 0, if 2 < i then dx l[2]! else 0, [], []⟩
theorem z7 (s : aq) : (cj s).2.length ≤ s.length := by
 unfold cj
 split <;> simp
theorem fW {s : aq} (h : ¬ (jm s ∧ fq (cK s) = true ∧ jt (cQ s) = true ∧ du (cQ s) = s)) : dA s = none := by
 unfold dA; rw [if_neg h]
end Go.Abs
namespace Go.Abs
def gD (s : aq) : Option cL := if (dA s).isSome = true then dA s else dA (94 :: s)
end Go.Abs
end
namespace Go.Abs
theorem mE {c : cL} (h : du c ≠ []) : jt c = true ∧ du c = ja c := by
 unfold du at h ⊢
 split at h
 ·rename_i hb; exact ⟨hb, if_pos hb⟩
 ·exact absurd rfl h
theorem uZ {s : aq} {op : Int} {l : List aq} {pre : aq} : Bo s op l pre = true ↔ fq l = true ∧ du (ny op l pre) ≠ [] ∧ (du (ny op l pre) = s ∨ du (ny op l pre) = 94 :: s) := by
 simp only [Bo, Bool.and_eq_true, Bool.not_eq_true', Bool.or_eq_false_iff, decide_eq_false_iff_not, Bool.and_eq_false_iff, Bool.not_eq_false', decide_eq_true_eq]
def pS (c : UInt8) : Prop := c ≠ 33 ∧ c ≠ 60 ∧ c ≠ 61 ∧ c ≠ 62 ∧ c ≠ 94 ∧ c ≠ 126
theorem lX {c : UInt8} (h : bc c.toNat = true) : pS c ∧ c ≠ 42 := by
 simp only [bc, Bool.and_eq_true, decide_eq_true_eq] at h
 refine ⟨⟨?_, ?_, ?_, ?_, ?_, ?_⟩, ?_⟩ <;> rintro rfl <;> revert h <;> decide
theorem wA {k : cL} : ∀ (i : Nat) (c : UInt8), c ∈ dq k i → bc c.toNat = true ∨ c = 46
 | 0, c, h => by simp [dq] at h
 | i + 1, c, h => by
  simp only [dq, List.mem_append] at h
  rcases h with (h | h) | h
  ·exact wA i c h
  ·split at h
   ·exact .inr (List.mem_singleton.1 h)
   ·cases h
  ·exact .inl (lV _ c h)
theorem sc (k : cL) : ∀ i, 0 < i → ∃ c r, dq k i = c :: r ∧ bc c.toNat = true
 | 0, h => by omega
 | 1, _ => by
  have hd := lV (k.ir[0]!).toNat
  have hn := CS (k.ir[0]!).toNat
  simp only [dq, Nat.lt_irrefl, if_false, List.nil_append]
  generalize gy (k.ir[0]!).toNat = w at hd hn
  match w, hn with
  | c :: r, _ => exact ⟨c, r, rfl, hd c (.head _)⟩
 | i + 2, _ => by
  obtain ⟨c, r, h1, h2⟩ := sc k (i + 1) (by omega)
  refine ⟨c, r ++ (if 0 < i + 1 then [46] else []) ++ gy (k.ir[i + 1]!).toNat, ?_, h2⟩
  show dq k (i + 1) ++ _ ++ _ = _
  rw [h1]; simp
theorem zr {c : cL} (h : jt c = true) (h9 : c.op ≠ 9) : 0 < c.parts.toNat := by
 simp only [jt, Bool.and_eq_true, decide_eq_true_eq] at h
 have := h.1.1.1.2
 rw [if_neg h9] at this
 omega
theorem zT {s : aq} {o : Int} (h : nX s 0 = some o) : 1 ≤ o ∧ o ≤ 8 ∧ ∃ x t, s = x :: t ∧ ¬ pS x ∧ (x = 94 → o = 7) := by
 have hm := List.mem_of_find?_eq_some h
 have hb := List.find?_some h
 simp only [py, Bool.and_eq_true, decide_eq_true_eq] at hb
 obtain ⟨h1, h2⟩ := hb
 have hne : s ≠ [] ∨ cP o = [] := by
  by_cases e : s = []
  ·right; subst e; simpa using h1
  ·exact .inl e
 simp only [opsL, List.drop_zero, List.mem_cons, List.not_mem_nil, or_false] at hm
 have key : ∀ w : aq, w ≠ [] → s.take w.length = w → ∃ x t t', s = x :: t ∧ w = x :: t' := by
  intro w hw hs
  match w, hw with
  | x :: t', _ =>
   match s with
   | [] => simp at hs
   | y :: t =>
    simp only [List.length_cons, List.take_succ_cons, List.cons.injEq] at hs
    exact ⟨x, t, t', by rw [hs.1], rfl⟩
 rcases hm with rfl | rfl | rfl | rfl | rfl | rfl | rfl | rfl
 all_goals
  refine ⟨by omega, by omega, ?_⟩
  obtain ⟨x, t, t', e1, e2⟩ := key _ (by decide) h2
  have hxx := congrArg (fun w : aq => w.headD 0) e2
  simp only [List.headD_cons] at hxx
  refine ⟨x, t, e1, ?_, ?_⟩
  ·rw [← hxx]; unfold pS; decide
  ·rw [← hxx]; decide
theorem se (t : aq) : nX (94 :: t) 0 = some 7 := by
 unfold nX opsL
 have hn : ∀ w : aq, w ≠ [] → w.headD 0 ≠ 94 → py (94 :: t) w = false := by
  intro w hw hx
  match w, hw with
  | x :: r, _ =>
   unfold py
   rw [Bool.and_eq_false_iff]
   right
   rw [decide_eq_false_iff_not]
   intro h
   simp only [List.length_cons, List.take_succ_cons, List.cons.injEq] at h
   exact hx h.1.symm
 have hy : py (94 :: t) (cP 7) = true := by
  unfold py
  rw [show cP 7 = [94] by decide]
  simp
 simp only [List.drop_zero, List.find?_cons, hn _ (show cP 2 ≠ [] by decide) (by decide), hn _ (show cP 4 ≠ [] by decide) (by decide), hn _ (show cP 6 ≠ [] by decide) (by decide), hn _ (show cP 1 ≠ [] by decide) (by decide),
  hn _ (show cP 3 ≠ [] by decide) (by decide), hn _ (show cP 5 ≠ [] by decide) (by decide), hy]
theorem wM (t : aq) : cj (94 :: t) = (7, t) := by
 simp only [cj, se]
 rw [show cP 7 = [94] by decide]; rfl
theorem sH (b : Int) : ∀ (s cur : aq), ∃ r l, bq b s cur = (cur ++ r) :: l
 | [], cur => ⟨[], [], by simp [bq]⟩
 | c :: s, cur => by
  simp only [bq]
  split
  ·exact ⟨[], _, by rw [List.append_nil]⟩
  ·obtain ⟨r, l, h⟩ := sH b s (cur ++ [c])
   exact ⟨c :: r, l, by rw [h]; simp⟩
theorem Ad {x : UInt8} {t : aq} (h : ¬ pS x) : fq (ar (fu (x :: t) 0).1 46) = false := by
 have hx : x ≠ 45 ∧ x ≠ 46 ∧ bc x.toNat = false := by
  refine ⟨?_, ?_, ?_⟩
  ·rintro rfl; exact h (by unfold pS; decide)
  ·rintro rfl; exact h (by unfold pS; decide)
  ·cases hd : bc x.toNat with
   | false => rfl
   | true => exact absurd (lX hd).1 h
 have hp : ∃ r, (fu (x :: t) 0).1 = x :: r := by
  unfold fu
  rw [List.drop_zero, List.findIdx?_cons]
  rw [if_neg (by simpa using hx.1)]
  cases t.findIdx? (fun c => c == 45) with
  | none => exact ⟨t, rfl⟩
  | some k => exact ⟨t.take k, by simp⟩
 obtain ⟨r, hr⟩ := hp
 rw [hr]
 have h46 : ¬ ((x.toNat : Int) = 46) := fun e => hx.2.1 (UInt8.toNat_inj.1 (by show x.toNat = 46; omega))
 obtain ⟨q, l, hs⟩ := sH 46 r [x]
 have e : ar (x :: r) 46 = (x :: q) :: l := by
  unfold ar
  simp only [bq]
  rw [if_neg h46]
  simpa using hs
 rw [e]
 unfold fq
 rw [Bool.and_eq_false_iff]
 right
 rw [aD (by simp)]
 have hn : gA ((x :: q) :: l)[0]! = false := by
  show gA (x :: q) = false
  rw [xT]
  rw [aD (by simp)]
  have : bc (at8 (x :: q) 0) = false := by simpa [at8] using hx.2.2
  rw [this]; simp
 rw [hn]; rfl
theorem Em {s : aq} (h : ix s = cj s) : eM s = if Bo s (cj s).1 (cK s) (cU s).2 = true then some (cQ s) else none := by
 unfold eM
 simp only [h]
 rfl
theorem sz {s : aq} : dA s = if jm s ∧ fq (cK s) = true ∧ jt (cQ s) = true ∧ du (cQ s) = s then some (cQ s) else none := rfl
theorem zY {s : aq} (h : ∀ c ∈ s, c ≠ 45) : fu s 0 = (s, []) := by
 unfold fu
 rw [List.drop_zero, List.findIdx?_eq_none_iff.2 (fun c hc => by simpa using h c hc)]
theorem uj {k : cL} (hb : jt k = true) (h9 : k.op = 9) : ja k = bj [46] (nD k ++ [[42]]) := by
 obtain ⟨_, h0, h3, _, _⟩ := lU hb
 rw [um h0 h3]
 unfold ja jn
 rw [if_pos h9, h9]
 rfl
theorem my {k : cL} {w : aq} (h : w ∈ nD k ++ [[42]]) {c : UInt8} (hc : c ∈ w) : bc c.toNat = true ∨ c = 42 := by
 rcases List.mem_append.1 h with h | h
 ·have := List.mem_of_mem_take h
  obtain ⟨n, _, rfl⟩ := List.mem_map.1 this
  exact .inl (lV _ c hc)
 ·obtain rfl := List.mem_singleton.1 h
  exact .inr (List.mem_singleton.1 hc)
theorem ui {k : cL} {s : aq} (hb : jt k = true) (h9 : k.op = 9) (hs : ja k = s) : (0 < s.length ∧ at8 s (s.length - 1) = 42) ∧ fu s 0 = (s, []) ∧ ar s 46 = nD k ++ [[42]] := by
 have ht := uj hb h9
 obtain ⟨_, h0, h3, _, _⟩ := lU hb
 rw [hs] at ht
 have hch : ∀ c ∈ s, bc c.toNat = true ∨ c = 42 ∨ c = 46 := by
  intro c hc
  rw [ht] at hc
  rcases mM 46 _ c hc with h | ⟨w, hw, hcw⟩
  ·exact .inr (.inr h)
  ·rcases my hw hcw with h | h
   ·exact .inl h
   ·exact .inr (.inl h)
 refine ⟨?_, zY (fun c hc => ?_), ?_⟩
 ·have he : ∃ q, s = q ++ [42] := by
   rw [ht, um h0 h3]
   exact ⟨dq k k.parts.toNat ++ (if 0 < k.parts then [46] else []), by rw [List.append_assoc]⟩
  obtain ⟨q, rfl⟩ := he
  simp [at8]
 ·rintro rfl
  rcases hch 45 hc with h | h | h
  ·revert h; decide
  ·revert h; decide
  ·revert h; decide
 ·rw [ht]
  refine qw (b := 46) (x := 46) rfl (by simp) fun w hw c hc => ?_
  rcases my hw hc with h | h
  ·have := (AP h).1; omega
  ·rw [h]; decide
theorem rC {k : cL} {s : aq} (hb : jt k = true) (h7 : k.op = 7) (hs : ja k = 94 :: s) : (∀ c ∈ s, c ≠ 42) ∧ ∃ c r, s = c :: r ∧ bc c.toNat = true := by
 have hp := zr hb (by omega)
 have e : s = dq k k.parts.toNat ++ jn k := by
  unfold ja at hs
  rw [h7, show cP 7 = [94] by decide] at hs
  simpa using hs.symm
 obtain ⟨c, r, h1, h2⟩ := sc k _ hp
 refine ⟨fun c hc => ?_, c, r ++ jn k, by rw [e, h1]; rfl, h2⟩
 rw [e] at hc
 rcases List.mem_append.1 hc with hc | hc
 ·rcases wA _ c hc with h | h
  ·exact (lX h).2
  ·rw [h]; decide
 ·unfold jn at hc
  rw [if_neg (by omega)] at hc
  split at hc
  ·cases hc
  ·rcases List.mem_cons.1 hc with rfl | hc
   ·decide
   ·have hv := (lU hb).1
    simp only [jo, Bool.and_eq_true] at hv
    rcases B2 hv.1.2 hc with h | h
    ·rintro rfl
     revert h; decide
    ·rw [h]; decide
theorem ra {s : aq} : Bo s (cj s).1 (cK s) (cU s).2 = true ↔ fq (cK s) = true ∧ du (cQ s) ≠ [] ∧ (du (cQ s) = s ∨ du (cQ s) = 94 :: s) := uZ
theorem AM (s : aq) : gD s = eM s := by
 have hcar : cj (94 :: s) = (7, s) := wM s
 have hL7 : cK (94 :: s) = ar (fu s 0).1 46 := by
  unfold cK cU; rw [hcar]; rfl
 have hK7 : cQ (94 :: s) = ny 7 (ar (fu s 0).1 46) (fu s 0).2 := by
  unfold cQ; rw [hL7]; unfold cU; rw [hcar]
 cases ho : nX s 0 with
 | some o =>
  obtain ⟨o1, o8, x, t, hs, hx, hx94⟩ := zT ho
  have hrw : cj s = (o, s.drop (cP o).length) := by simp only [cj, ho]
  have hsp : ix s = cj s := by rw [hrw]; simp only [ix, ho]
  have hstar : jm s := by
   intro h; rw [hrw] at h; simp only at h; omega
  have hcn : dA (94 :: s) = none := fW fun h => by
   have := h.2.1
   rw [hL7, hs, Ad hx] at this; cases this
  have hop : (cQ s).op = o := by show (cj s).1 = o; rw [hrw]
  rw [Em hsp]
  by_cases hk : fq (cK s) = true ∧ du (cQ s) = s
  ·have hne : du (cQ s) ≠ [] := by rw [hk.2, hs]; simp
   have hb := (mE hne).1
   have hr : dA s = some (cQ s) := by rw [sz, if_pos ⟨hstar, hk.1, hb, hk.2⟩]
   have hok : Bo s (cj s).1 (cK s) (cU s).2 = true := ra.2 ⟨hk.1, hne, .inl hk.2⟩
   rw [if_pos hok]
   unfold gD
   rw [hr]; rfl
  ·have hr : dA s = none := fW fun h => hk ⟨h.2.1, h.2.2.2⟩
   have hok : ¬ Bo s (cj s).1 (cK s) (cU s).2 = true := fun h => by
    obtain ⟨h1, h2, h3⟩ := ra.1 h
    rcases h3 with h3 | h3
    ·exact hk ⟨h1, h3⟩
    ·obtain ⟨hb, he⟩ := mE h2
     have h3' : ja (cQ s) = 94 :: s := by rw [← he]; exact h3
     have h7 : o = 7 := by
      have hh : ∃ y w, cP o = y :: w ∧ (y = 94 → o = 7) := by
       have : o = 1 ∨ o = 2 ∨ o = 3 ∨ o = 4 ∨ o = 5 ∨ o = 6 ∨ o = 7 ∨ o = 8 := by omega
       rcases this with rfl | rfl | rfl | rfl | rfl | rfl | rfl | rfl
       ·exact ⟨61, [], by decide, by decide⟩
       ·exact ⟨33, [61], by decide, by decide⟩
       ·exact ⟨60, [], by decide, by decide⟩
       ·exact ⟨60, [61], by decide, by decide⟩
       ·exact ⟨62, [], by decide, by decide⟩
       ·exact ⟨62, [61], by decide, by decide⟩
       ·exact ⟨94, [], by decide, by decide⟩
       ·exact ⟨126, [], by decide, by decide⟩
      obtain ⟨y, w, e1, e2⟩ := hh
      unfold ja at h3'
      rw [hop, e1] at h3'
      simp only [List.cons_append, List.cons.injEq] at h3'
      exact e2 h3'.1
     obtain ⟨_, c, r, e1, e2⟩ := rC hb (by rw [hop]; exact h7) h3'
     rw [hs] at e1
     simp only [List.cons.injEq] at e1
     rw [← e1.1] at e2
     exact hx (lX e2).1
   rw [if_neg hok]
   unfold gD
   rw [hr, if_neg (by simp), hcn]
 | none =>
  have hrw : cj s = (9, s) := by simp only [cj, ho]
  have h94 : ∀ t, s ≠ 94 :: t := by
   rintro t rfl
   rw [se] at ho; cases ho
  have hop : (cQ s).op = 9 := by show (cj s).1 = 9; rw [hrw]
  have hst7 : jm (94 :: s) := by
   intro h; rw [hcar] at h; simp only at h; omega
  by_cases hl : 0 < s.length ∧ at8 s (s.length - 1) = 42
  ·have hsp : ix s = cj s := by rw [hrw]; simp only [ix, ho, if_pos hl]
   have hcn : dA (94 :: s) = none := fW fun h => by
    obtain ⟨_, h2, h3, h4⟩ := h
    have he := (mE (c := cQ (94 :: s)) (by rw [h4]; simp)).2
    rw [h4] at he
    have hno := (rC h3 (by rw [hK7]; rfl) he.symm).1
    have hmem : s[s.length - 1]'(by omega) ∈ s := List.getElem_mem _
    refine hno _ hmem (UInt8.toNat_inj.1 ?_)
    have := hl.2
    rw [uE s _ (by omega)] at this
    show _ = 42
    omega
   rw [Em hsp]
   by_cases hk : fq (cK s) = true ∧ du (cQ s) = s
   ·have hne : du (cQ s) ≠ [] := by
     rw [hk.2]; intro h; rw [h] at hl; simp at hl
    obtain ⟨hb, he⟩ := mE hne
    obtain ⟨_, g2, g3⟩ := ui (s := s) hb hop (he.symm.trans hk.2)
    have hstar : jm s := by
     intro _
     have hP : cU s = (s, []) := by unfold cU; rw [hrw]; exact g2
     rw [hP]
     simp only
     rw [g3]
     simp
    have hr : dA s = some (cQ s) := by rw [sz, if_pos ⟨hstar, hk.1, hb, hk.2⟩]
    have hok : Bo s (cj s).1 (cK s) (cU s).2 = true := ra.2 ⟨hk.1, hne, .inl hk.2⟩
    rw [if_pos hok]
    unfold gD
    rw [hr]; rfl
   ·have hr : dA s = none := fW fun h => hk ⟨h.2.1, h.2.2.2⟩
    have hok : ¬ Bo s (cj s).1 (cK s) (cU s).2 = true := fun h => by
     obtain ⟨h1, h2, h3⟩ := ra.1 h
     rcases h3 with h3 | h3
     ·exact hk ⟨h1, h3⟩
     ·obtain ⟨hb, he⟩ := mE h2
      have h3' : ja (cQ s) = 94 :: s := by rw [← he]; exact h3
      have ht := uj hb hop
      rw [h3'] at ht
      have hm : (94 : UInt8) ∈ bj [46] (nD (cQ s) ++ [[42]]) := by rw [← ht]; simp
      rcases mM 46 _ _ hm with h | ⟨w, hw, hcw⟩
      ·revert h; decide
      ·rcases my hw hcw with h | h
       ·revert h; decide
       ·revert h; decide
    rw [if_neg hok]
    unfold gD
    rw [hr, if_neg (by simp), hcn]
  ·have hsp : ix s = (7, s) := by simp only [ix, ho, if_neg hl]
   have hr : dA s = none := fW fun h => by
    obtain ⟨h1, h2, h3, h4⟩ := h
    have he : ja (cQ s) = s := (if_pos h3 : du (cQ s) = ja (cQ s)).symm.trans h4
    exact hl (ui h3 hop he).1
   have h6 : eM s = if Bo s 7 (ar (fu s 0).1 46) (fu s 0).2 = true then some (cQ (94 :: s)) else none := by
    unfold eM
    simp only [hsp]
    rw [hK7]; rfl
   have hRC : gD s = dA (94 :: s) := by
    unfold gD; rw [hr]; rfl
   rw [hRC, h6, sz]
   by_cases hok : Bo s 7 (ar (fu s 0).1 46) (fu s 0).2 = true
   ·rw [if_pos hok]
    obtain ⟨h1, h2, h3⟩ := uZ.1 hok
    obtain ⟨hb, he⟩ := mE h2
    rcases h3 with h3 | h3
    ·exfalso
     rw [he] at h3
     have hh : ∃ w, ja (ny 7 (ar (fu s 0).1 46) (fu s 0).2) = 94 :: w := by
      unfold ja
      exact ⟨_, rfl⟩
     obtain ⟨w, hw⟩ := hh
     exact h94 w (by rw [← h3, hw])
    ·rw [if_pos ⟨hst7, by rw [hL7]; exact h1, by rw [hK7]; exact hb, by rw [hK7]; exact h3⟩]
   ·rw [if_neg hok, if_neg]
    rintro ⟨_, g2, g3, g4⟩
    rw [hK7] at g3 g4
    rw [hL7] at g2
    exact hok (uZ.2 ⟨g2, by rw [g4]; simp, .inr g4⟩)
abbrev Alt := List cL
abbrev uC := List Alt
def om (a : Alt) : D := .sl 7 (a.map cL.D)
theorem xm (a : Alt) : (om a).aL = true := rfl
theorem qV (l k : Nat) (es : List D) (r : List Alt) : kL l k es (r.map om) = r.map om := rO l k es _ (bP xm _)
def fM (r : uC) : D := .agg [.sl 1 (r.map om)]
def lA (a : Alt) : Bool := decide (1 ≤ a.length) && decide (a.length ≤ 6) && bO (fun k => jt a[k]!) 0 a.length
def j9 (r : uC) : Bool := decide (1 ≤ r.length) && decide (r.length ≤ 6) && bO (fun i => lA r[i]!) 0 r.length
def pr (a : Alt) : aq := bj [44, 32] (a.map du)
def Ab (r : uC) : aq := bj [32, 124, 124, 32] (r.map pr)
def cL.lo (c : cL) : Prop := c.v.pre.length ≤ 1000 ∧ c.v.build.length ≤ 1000
theorem cL.lo.sm {c : cL} (h : c.lo) : c.v.sm := ⟨Nat.le_trans h.1 (by decide), Nat.le_trans h.2 (by decide)⟩
def mq (r : uC) : Prop := ∀ a ∈ r, ∀ c ∈ a, c.lo
theorem vS {c : cL} (h : c.lo) : (du c).length ≤ 1100 := by
 unfold du
 split
 ·rename_i hb
  obtain ⟨hv, h0, h3, _⟩ := lU hb
  have h1 := ub c.op
  have h2 := pP hv c.parts.toNat
  have ht : (jn c).length ≤ 1001 := by
   unfold jn
   have := h.1
   split
   ·split <;> simp
   ·split
    ·simp
    ·simp only [List.length_cons]; omega
  simp only [ja, List.length_append]
  omega
 ·simp
theorem qk (b : aq) (M : Nat) : ∀ (l : List aq), (∀ t ∈ l, t.length ≤ M) → (bj b l).length ≤ l.length * (M + b.length)
 | [], _ => by simp [bj]
 | [t], h => by
  have := h t (.head _)
  simp only [bj, List.length_singleton, Nat.one_mul]; omega
 | t :: u :: r, h => by
  have h1 := h t (.head _)
  have h2 := qk b M (u :: r) fun x hx => h x (.tail _ hx)
  simp only [bj, List.length_append]
  simp only [List.length_cons, Nat.add_mul, Nat.one_mul] at h2 ⊢
  omega
theorem AD {a : Alt} (h : ∀ c ∈ a, c.lo) (hl : a.length ≤ 6) : (pr a).length ≤ 6612 := by
 have := qk [44, 32] 1100 (a.map du) (fun t ht => by
  obtain ⟨c, hc, rfl⟩ := List.mem_map.1 ht
  exact vS (h c hc))
 simp only [List.length_map] at this
 have h2 : a.length * (1100 + ([44, 32] : aq).length) ≤ 6 * 1102 := Nat.mul_le_mul hl (by decide)
 unfold pr; omega
theorem AV {r : uC} (h : j9 r = true) {i : Nat} (hi : i < r.length) : lA r[i]! = true := by
 simp only [j9, Bool.and_eq_true, decide_eq_true_eq] at h
 exact en.1 h.2 i (by omega) hi
theorem zo {a : Alt} (h : lA a = true) : 1 ≤ a.length ∧ a.length ≤ 6 := by
 simp only [lA, Bool.and_eq_true, decide_eq_true_eq] at h
 exact h.1
theorem gX {α β : Type} [Inhabited α] (f : α → β) (l : List α) {i : Nat} (h : i < l.length) : (l.map f).take (i + 1) = (l.map f).take i ++ [f l[i]!] := by
 rw [List.take_add_one]
 simp [h]
def pN (r : uC) : Bool := j9 r && decide ((Ab r).length ≤ 96)
def ua (r : uC) : aq := if pN r = true then Ab r else []
def aK : aq → aq → List aq
 | [], cur => [cur]
 | [c], cur => [cur ++ [c]]
 | c :: d :: r, cur => if c = 124 ∧ d = 124 then cur :: aK r [] else aK (d :: r) (cur ++ [c])
def oo : aq → aq
 | [] => []
 | c :: r => if c = 32 then oo r else c :: r
def dZ (s : aq) : aq := (oo (oo s).reverse).reverse
theorem ko : ∀ s, (oo s).length ≤ s.length
 | [] => Nat.le_refl _
 | c :: r => by
  unfold oo
  split
  ·have := ko r; simp only [List.length_cons]; omega
  ·exact Nat.le_refl _
theorem tp (s : aq) : (dZ s).length ≤ s.length := by
 have h1 := ko s
 have h2 := ko (oo s).reverse
 simp only [List.length_reverse] at h2
 simp only [dZ, List.length_reverse]; omega
theorem lx : ∀ (s cur : aq), (aK s cur).length ≤ s.length + 1 ∧ (∀ t ∈ aK s cur, t.length ≤ cur.length + s.length)
 | [], cur => by simp [aK]
 | [c], cur => by simp [aK]
 | c :: d :: r, cur => by
  unfold aK
  split
  ·have := lx r []
   refine ⟨by simp only [List.length_cons]; omega, fun t ht => ?_⟩
   rcases List.mem_cons.1 ht with rfl | ht
   ·simp
   ·have := this.2 t ht
    simp only [List.length_nil, List.length_cons] at this ⊢; omega
  ·have := lx (d :: r) (cur ++ [c])
   refine ⟨by have := this.1; simp only [List.length_cons] at this ⊢; omega, fun t ht => ?_⟩
   have := this.2 t ht
   simp only [List.length_append, List.length_cons, List.length_nil] at this ⊢; omega
def wOK (t : aq) : Bool := bO (fun k => (eM (dZ (ar t 44)[k]!)).isSome) 0 (ar t 44).length
def y0 (s : aq) : Bool := bO (fun i => wOK (aK s [])[i]!) 0 (aK s []).length
def pw (t : aq) : Alt := (ar t 44).map fun x => (eM (dZ x)).getD dk
def kg (s : aq) : uC := (aK s []).map pw
def iw (s : aq) : uC × Int :=
 if 96 < s.length then ([], 3) else if y0 s = false then ([], 6) else if j9 (kg s) = false then ([], 6) else if 96 < (Ab (kg s)).length then ([], 3) else (kg s, 0)
def rh (s : aq) : Bool := decide ((iw s).2 = 0) && decide (ua (iw s).1 = s)
theorem AL {s : aq} (h : s.length ≤ 1000) : ((eM s).getD dk).lo := by
 unfold eM
 simp only
 split
 ·have h1 := yc s
  have h2 := wI (ix s).2
  exact ⟨by show (fu (ix s).2 0).2.length ≤ 1000; omega, by show ([] : aq).length ≤ 1000; decide⟩
 ·exact ⟨by show ([] : aq).length ≤ 1000; decide, by show ([] : aq).length ≤ 1000; decide⟩
theorem y5 {s : aq} (h : s.length ≤ 1000) : mq (kg s) := by
 intro a ha c hc
 obtain ⟨t, ht, rfl⟩ := List.mem_map.1 ha
 obtain ⟨x, hx, rfl⟩ := List.mem_map.1 hc
 have h1 := (lx s []).2 t ht
 have h2 := dd t 44 hx
 have h3 := tp x
 simp only [List.length_nil] at h1
 exact AL (by omega)
theorem DM {s : aq} : mq (iw s).1 ∧ ((iw s).2 = 0 → j9 (iw s).1 = true) := by
 unfold iw
 split
 ·exact ⟨(fun a ha => by cases ha), fun h => by cases h⟩
 ·split
  ·exact ⟨(fun a ha => by cases ha), fun h => by cases h⟩
  ·split
   ·exact ⟨(fun a ha => by cases ha), fun h => by cases h⟩
   ·rename_i hf
    split
    ·exact ⟨(fun a ha => by cases ha), fun h => by cases h⟩
    ·exact ⟨y5 (by omega), fun _ => by simpa using hf⟩
theorem Nd.eq (a b : Nd) : et (Nd.D a).cells (Nd.D b).cells = decide (a = b) := by
 obtain ⟨a1, a2, a3, a4, a5⟩ := a
 obtain ⟨b1, b2, b3, b4, b5⟩ := b
 simp only [Nd.D, D.cells, et, oD, qT, Nd.mk.injEq, Bool.and_true]
 simp only [Bool.decide_and]
def gC (n : Nd) : Bool := decide (n.key = 0) && decide (n.text = [])
def nC (n : Nd) : Bool := decide (n.op = 1) && decide (0 ≤ n.key) && decide (n.key < 3) && bZ n.text && decide (n.a = 0) && decide (n.b = 0)
def gF (n : Nd) (i : Nat) (o : List Int) : Option (List Int) :=
 if nC n = true then some (o ++ [(i : Int)])
 else if (((n.op = 2 ∧ gC n = true) ∧ 0 < o.length) ∧ n.a = o[o.length - 1]!) ∧ n.b = 0 then some (o.take (o.length - 1) ++ [(i : Int)])
 else if ((((n.op = 3 ∨ n.op = 4) ∧ gC n = true) ∧ 1 < o.length) ∧ n.a = o[o.length - 2]!) ∧ n.b = o[o.length - 1]! then some (o.take (o.length - 2) ++ [(i : Int)])
 else none
def jM : List Nd → Nat → List Int → Option (List Int)
 | [], _, o => some o
 | n :: r, i, o => match gF n i o with
  | some o' => jM r (i + 1) o'
  | none => none
def mz (l : List Nd) : Bool := match jM l 0 [] with
 | some o => decide (l.length = 0) || decide (o.length = 1)
 | none => false
theorem tx {α : Type} [Inhabited α] (l : List α) {i : Nat} (h : i < l.length) : l.drop i = l[i]! :: l.drop (i + 1) := by
 rw [List.drop_eq_getElem_cons h]; simp [h]
theorem jh {l : List Nd} {i : Nat} {o o' : List Int} (h : i < l.length) (hs : gF l[i]! i o = some o') : jM (l.drop i) i o = jM (l.drop (i + 1)) (i + 1) o' := by
 rw [tx l h]; simp only [jM, hs]
theorem dR {l : List Nd} {i : Nat} {o : List Int} (h : i < l.length) (hs : gF l[i]! i o = none) : jM (l.drop i) i o = none := by
 rw [tx l h]; simp only [jM, hs]
theorem zW {l : List Nd} {i : Nat} {o : List Int} (h : l.length ≤ i) : jM (l.drop i) i o = some o := by
 rw [List.drop_eq_nil_of_le h]; rfl
theorem B7 {l : List Nd} (h : jM l 0 [] = none) : mz l = false := by simp only [mz, h]
theorem fH {l : List Nd} (h : jM l 0 [] = none) : (true && mz l) = false := by rw [B7 h]; rfl
def vy (S : List Int) : Int → List Int → Prop
 | e, [] => e = 0
 | e, t :: r => t = e - 1 ∧ 0 ≤ t ∧ 0 ≤ S[t.toNat]! ∧ S[t.toNat]! ≤ t ∧ vy S S[t.toNat]! r
theorem uJ {S : List Int} {i : Nat} {v : Int} : ∀ {r : List Int} {e : Int}, e ≤ i → vy S e r → vy (S.set i v) e r
 | [], e, _, h => h
 | t :: r, e, he, ⟨h1, h2, h3, h4, h5⟩ => by
  have hg : (S.set i v)[t.toNat]! = S[t.toNat]! := by
   have : i ≠ t.toNat := by omega
   simp [List.getElem?_set, this]
  exact ⟨h1, h2, by rw [hg]; exact h3, by rw [hg]; exact h4, by rw [hg]; exact uJ (by omega) h5⟩
theorem DO {S : List Int} {i : Nat} {v : Int} (h : i < S.length) : (S.set i v)[i]! = v := by
 simp [h]
theorem ox {S : List Int} {i : Nat} {v : Int} {r : List Int} (h : i < S.length) (h0 : 0 ≤ v) (h1 : v ≤ i) (hc : vy S v r) : vy (S.set i v) ((i + 1 : Nat) : Int) ((i : Int) :: r) := by
 have hg : (S.set i v)[((i : Nat) : Int).toNat]! = v := by rw [Int.toNat_natCast]; exact DO h
 exact ⟨by omega, by omega, by rw [hg]; exact h0, by rw [hg]; exact h1, by rw [hg]; exact uJ (by omega) hc⟩
theorem oy {S : List Int} {i : Nat} {o : List Int} (h : vy S (i : Nat) o.reverse) : (0 < o.length ↔ 1 ≤ i) ∧ (1 ≤ i → o[o.length - 1]! = (i : Int) - 1 ∧ 0 ≤ S[i - 1]! ∧ S[i - 1]! ≤ (i : Int) - 1 ∧ vy S S[i - 1]! (o.take (o.length - 1)).reverse) := by
 rcases List.eq_nil_or_concat o with rfl | ⟨p, t, rfl⟩
 ·have h : ((i : Nat) : Int) = 0 := h
  exact ⟨⟨fun h => absurd h (by simp), fun h2 => by omega⟩, fun h2 => by omega⟩
 ·rw [List.concat_eq_append, List.reverse_append, List.reverse_singleton, List.singleton_append] at h
  obtain ⟨h1, h2, h3, h4, h5⟩ := h
  have ht : t.toNat = i - 1 := by omega
  rw [ht] at h3 h4 h5
  rw [List.concat_eq_append]
  refine ⟨⟨fun _ => by omega, fun _ => by simp⟩, fun _ => ⟨by simp [h1], h3, by omega, ?_⟩⟩
  rw [List.take_append_of_le_length (by simp), List.take_of_length_le (by simp)]
  exact h5
theorem uK {S : List Int} {i : Nat} {o : List Int} (h : vy S (i : Nat) o.reverse) : (1 < o.length ↔ 1 ≤ i ∧ 1 ≤ S[i - 1]!) ∧ (1 < o.length → o[o.length - 2]! = S[i - 1]! - 1 ∧ 0 ≤ S[(S[i - 1]! - 1).toNat]! ∧ S[(S[i - 1]! - 1).toNat]! ≤ S[i - 1]! - 1 ∧ vy S S[(S[i - 1]! - 1).toNat]! (o.take (o.length - 2)).reverse) := by
 obtain ⟨h1, h2⟩ := oy h
 by_cases hi : 1 ≤ i
 ·obtain ⟨g1, g2, g3, g4⟩ := h2 hi
  have hl := h1.2 hi
  rcases List.eq_nil_or_concat o with rfl | ⟨p, t, rfl⟩
  ·simp at hl
  ·rw [List.concat_eq_append] at g4 ⊢
   rw [List.take_append_of_le_length (by simp), List.take_of_length_le (by simp)] at g4
   rcases List.eq_nil_or_concat p with rfl | ⟨q, u, rfl⟩
   ·have g4 : S[i - 1]! = 0 := g4
    exact ⟨⟨fun h => absurd h (by simp), fun h => by omega⟩, fun h => absurd h (by simp)⟩
   ·rw [List.concat_eq_append] at g4 ⊢
    rw [List.reverse_append, List.reverse_singleton, List.singleton_append] at g4
    obtain ⟨k1, k2, k3, k4, k5⟩ := g4
    subst k1
    refine ⟨⟨fun _ => ⟨hi, by omega⟩, fun _ => by simp⟩, fun _ => ⟨by simp, k3, k4, ?_⟩⟩
    rw [List.append_assoc, List.take_append_of_le_length (by simp), List.take_of_length_le (by simp)]
    exact k5
 ·have : ¬ 0 < o.length := fun h => hi (h1.1 h)
  exact ⟨⟨fun h => by omega, fun h => absurd h.1 hi⟩, fun h => by omega⟩
theorem B8 {S : List Int} {n : Nat} {o : List Int} (t1 : 0 < o.length ↔ 1 ≤ n) (t2 : 1 ≤ n → o[o.length - 1]! = (n : Int) - 1 ∧ 0 ≤ S[n - 1]! ∧ S[n - 1]! ≤ (n : Int) - 1 ∧ vy S S[n - 1]! (o.take (o.length - 1)).reverse) (u1 : 1 < o.length ↔ 1 ≤ n ∧ 1 ≤ S[n - 1]!) :
  (decide (n = 0) || decide (o.length = 1)) = (decide ((n : Nat) = (0 : Int)) || decide (S[n - 1]! = 0)) := by
 rw [Bool.eq_iff_iff]
 simp only [Bool.or_eq_true, decide_eq_true_eq]
 constructor
 ·rintro (h | h)
  ·left; omega
  ·by_cases hn : 1 ≤ n
   ·have := t2 hn; right; omega
   ·left; omega
 ·rintro (h | h)
  ·left; omega
  ·by_cases hn : 1 ≤ n
   ·right; omega
   ·left; omega
theorem rV {n : Nd} (h : nC n = true) : n.op = 1 := by simp only [nC, Bool.and_eq_true, decide_eq_true_eq] at h; exact h.1.1.1.1.1
theorem yh {n : Nd} {i : Nat} {o : List Int} (h : nC n = true) : gF n i o = some (o ++ [(i : Int)]) := if_pos h
theorem vk {n : Nd} {i : Nat} {o : List Int} (h1 : n.op = 1) (h : nC n = false) : gF n i o = none := by
 unfold gF
 rw [if_neg (by simp [h]), if_neg (by rintro ⟨⟨⟨⟨h, _⟩, _⟩, _⟩, _⟩; omega), if_neg (by rintro ⟨⟨⟨⟨h | h, _⟩, _⟩, _⟩, _⟩ <;> omega)]
theorem wV {n : Nd} {i : Nat} {o : List Int} (h1 : n.op ≠ 1) (h2 : n.op ≠ 2) (h3 : n.op ≠ 3) (h4 : n.op ≠ 4) : gF n i o = none := by
 unfold gF
 rw [if_neg (fun h => h1 (rV h)), if_neg (by rintro ⟨⟨⟨⟨h, _⟩, _⟩, _⟩, _⟩; exact h2 h), if_neg (by rintro ⟨⟨⟨⟨h | h, _⟩, _⟩, _⟩, _⟩; exact h3 h; exact h4 h)]
theorem p7 {S : List Int} {n : Nd} {i : Nat} {o : List Int} (hc : vy S (i : Nat) o.reverse) (h2 : n.op = 2) : gF n i o = if (1 ≤ i ∧ n.a = (i : Int) - 1 ∧ n.b = 0) ∧ gC n = true then some (o.take (o.length - 1) ++ [(i : Int)]) else none := by
 obtain ⟨t1, t2⟩ := oy hc
 unfold gF
 rw [if_neg (fun h => by have := rV h; omega)]
 by_cases hk : (1 ≤ i ∧ n.a = (i : Int) - 1 ∧ n.b = 0) ∧ gC n = true
 ·rw [if_pos hk, if_pos ⟨⟨⟨⟨h2, hk.2⟩, t1.2 hk.1.1⟩, by rw [(t2 hk.1.1).1]; exact hk.1.2.1⟩, hk.1.2.2⟩]
 ·rw [if_neg hk, if_neg, if_neg (by rintro ⟨⟨⟨⟨h | h, _⟩, _⟩, _⟩, _⟩ <;> omega)]
  rintro ⟨⟨⟨⟨_, g1⟩, g2⟩, g3⟩, g4⟩
  have hi := t1.1 g2
  exact hk ⟨⟨hi, by rw [g3]; exact (t2 hi).1, g4⟩, g1⟩
theorem iW {S : List Int} {n : Nd} {i : Nat} {o : List Int} (hc : vy S (i : Nat) o.reverse) (h2 : n.op = 3 ∨ n.op = 4) : gF n i o = if (2 ≤ i ∧ n.b = (i : Int) - 1 ∧ 1 ≤ S[i - 1]! ∧ n.a = S[i - 1]! - 1) ∧ gC n = true then some (o.take (o.length - 2) ++ [(i : Int)]) else none := by
 obtain ⟨t1, t2⟩ := oy hc
 obtain ⟨u1, u2⟩ := uK hc
 unfold gF
 rw [if_neg (fun h => by have := rV h; omega), if_neg (by rintro ⟨⟨⟨⟨h, _⟩, _⟩, _⟩, _⟩; omega)]
 by_cases hk : (2 ≤ i ∧ n.b = (i : Int) - 1 ∧ 1 ≤ S[i - 1]! ∧ n.a = S[i - 1]! - 1) ∧ gC n = true
 ·have hl := u1.2 ⟨by omega, hk.1.2.2.1⟩
  rw [if_pos hk, if_pos ⟨⟨⟨⟨h2, hk.2⟩, hl⟩, by rw [(u2 hl).1]; exact hk.1.2.2.2⟩, by rw [(t2 (by omega)).1]; exact hk.1.2.1⟩]
 ·rw [if_neg hk, if_neg]
  rintro ⟨⟨⟨⟨_, g1⟩, g2⟩, g3⟩, g4⟩
  obtain ⟨hi, hS⟩ := u1.1 g2
  obtain ⟨w1, w2, w3, _⟩ := t2 hi
  exact hk ⟨⟨by omega, by rw [g4]; exact w1, hS, by rw [g3]; exact (u2 g2).1⟩, g1⟩
def fo (l : List Nd) : Prop := ∀ j, j < l.length → (l[j]!.op = 1 → 0 ≤ l[j]!.key ∧ l[j]!.key < 3 ∧ l[j]!.text.length ≤ 12) ∧ (l[j]!.op ≠ 1 → 0 ≤ l[j]!.a ∧ l[j]!.a < j) ∧ (l[j]!.op ≠ 1 → l[j]!.op ≠ 2 → 0 ≤ l[j]!.b ∧ l[j]!.b < j)
theorem xW {l : List Nd} : ∀ (k i : Nat) (o o' : List Int), i + k = l.length → (∀ x ∈ o, 0 ≤ x ∧ x < (i : Int)) → jM (l.drop i) i o = some o' →
  ∀ j, i ≤ j → j < l.length → (l[j]!.op = 1 → 0 ≤ l[j]!.key ∧ l[j]!.key < 3 ∧ l[j]!.text.length ≤ 12) ∧ (l[j]!.op ≠ 1 → 0 ≤ l[j]!.a ∧ l[j]!.a < j) ∧ (l[j]!.op ≠ 1 → l[j]!.op ≠ 2 → 0 ≤ l[j]!.b ∧ l[j]!.b < j) := by
 intro k
 induction k with
 | zero => intro i o o' h1 h2 h3 j h4 h5; omega
 | succ k ih =>
  intro i o o' h1 h2 h3 j h4 h5
  have hi : i < l.length := by omega
  cases hs : gF l[i]! i o with
  | none => rw [dR hi hs] at h3; cases h3
  | some o2 =>
   rw [jh hi hs] at h3
   have hm : ∀ m, 0 < m → m ≤ o.length → 0 ≤ o[o.length - m]! ∧ o[o.length - m]! < (i : Int) := fun m hm1 hm2 => h2 _ (cE (by omega))
   have hsub : ∀ m, ∀ x ∈ o.take m ++ [(i : Int)], 0 ≤ x ∧ x < ((i + 1 : Nat) : Int) := fun m x hx => by
    rcases List.mem_append.1 hx with hx | hx
    ·have := h2 x (List.mem_of_mem_take hx); omega
    ·simp only [List.mem_singleton] at hx; omega
   unfold gF at hs
   split at hs
   ·rename_i hl
    cases hs
    rcases Nat.lt_or_ge i j with hj | hj
    ·exact ih (i + 1) _ o' (by omega) (by have := hsub o.length; rwa [List.take_of_length_le (Nat.le_refl _)] at this) h3 j hj h5
    ·obtain rfl : i = j := by omega
     simp only [nC, Bool.and_eq_true, decide_eq_true_eq] at hl
     have hw := hl.1.1.2
     simp only [bZ, Bool.and_eq_true, decide_eq_true_eq] at hw
     exact ⟨fun _ => ⟨hl.1.1.1.1.2, hl.1.1.1.2, hw.1.2⟩, fun h => absurd hl.1.1.1.1.1 h, fun h => absurd hl.1.1.1.1.1 h⟩
   ·split at hs
    ·rename_i hl
     cases hs
     rcases Nat.lt_or_ge i j with hj | hj
     ·exact ih (i + 1) _ o' (by omega) (hsub _) h3 j hj h5
     ·obtain rfl : i = j := by omega
      obtain ⟨⟨⟨⟨g1, g2⟩, g3⟩, g4⟩, g5⟩ := hl
      have := hm 1 (by omega) (by omega)
      exact ⟨fun h => by omega, fun _ => by rw [g4]; exact this, fun _ h => absurd g1 h⟩
    ·split at hs
     ·rename_i hl
      cases hs
      rcases Nat.lt_or_ge i j with hj | hj
      ·exact ih (i + 1) _ o' (by omega) (hsub _) h3 j hj h5
      ·obtain rfl : i = j := by omega
       obtain ⟨⟨⟨⟨g1, g2⟩, g3⟩, g4⟩, g5⟩ := hl
       have q1 := hm 1 (by omega) (by omega)
       have q2 := hm 2 (by omega) (by omega)
       exact ⟨fun h => by omega, fun _ => by rw [g4]; exact q2, fun _ _ => by rw [g5]; exact q1⟩
     ·cases hs
theorem sL {l : List Nd} (h : mz l = true) : fo l := by
 unfold mz at h
 cases ho : jM l 0 [] with
 | none => rw [ho] at h; cases h
 | some o => exact fun j hj => xW l.length 0 [] o (by omega) (by simp) ho j (Nat.zero_le _) hj
theorem yK {n : Nd} (h : n.op = 1) : nC n = !((((decide (n.key < 0) || decide (3 ≤ n.key)) || !bZ n.text) || !decide (n.a = 0)) || !decide (n.b = 0)) := by
 simp only [nC, h, decide_true, Bool.true_and]
 rw [show decide (n.key < 0) = !decide (0 ≤ n.key) from by rw [← decide_not]; exact decide_eq_decide.2 (by omega), show decide (3 ≤ n.key) = !decide (n.key < 3) from by rw [← decide_not]; exact decide_eq_decide.2 (by omega)]
 generalize decide (0 ≤ n.key) = a
 generalize decide (n.key < 3) = b
 generalize bZ n.text = c
 generalize decide (n.a = 0) = d
 generalize decide (n.b = 0) = e
 cases a <;> cases b <;> cases c <;> cases d <;> cases e <;> rfl
theorem rj {S : List Int} {i : Nat} (h : i < S.length) (v : Int) : (S.map (D.int .i64)).set (0 + i) (sJ ((S.map (D.int .i64)).getD (0 + i) .any) 1 1 0 (.int .i64 v)) = (S.set i v).map (D.int .i64) := by
 rw [Nat.zero_add, getD_map (q := D.int .i64) h, List.map_set]
 rfl
abbrev D6 := List Nd
def iL (m : D6) : D := .agg [.sl 5 (m.map Nd.D)]
def lD : List aq := [[111, 115], [97, 114, 99, 104], [97, 98, 105]]
def uS (k : Int) : aq := if k = 0 then [111, 115] else if k = 1 then [97, 114, 99, 104] else [97, 98, 105]
def js (s : aq) (b : Bool) : aq := if b = true then [40, 32] ++ s ++ [32, 41] else s
def mA (l : List Nd) : Nat → Int → aq
 | 0, _ => []
 | f + 1, i =>
  if l[i.toNat]!.op = 1 then uS l[i.toNat]!.key ++ [32, 61, 32] ++ l[i.toNat]!.text
  else if l[i.toNat]!.op = 2 then
   if l[l[i.toNat]!.a.toNat]!.op = 1 then uS l[l[i.toNat]!.a.toNat]!.key ++ [32, 33, 61, 32] ++ l[l[i.toNat]!.a.toNat]!.text
   else [110, 111, 116, 32] ++ js (mA l f l[i.toNat]!.a) (!decide (l[l[i.toNat]!.a.toNat]!.op = 2))
  else if l[i.toNat]!.op = 3 then js (mA l f l[i.toNat]!.a) (decide (l[l[i.toNat]!.a.toNat]!.op = 4)) ++ [32, 97, 110, 100, 32] ++ js (mA l f l[i.toNat]!.b) (decide (l[l[i.toNat]!.b.toNat]!.op = 4) || decide (l[l[i.toNat]!.b.toNat]!.op = 3))
  else mA l f l[i.toNat]!.a ++ [32, 111, 114, 32] ++ js (mA l f l[i.toNat]!.b) (decide (l[l[i.toNat]!.b.toNat]!.op = 4))
def kj (l : List Nd) (i : Int) : aq := mA l (i.toNat + 1) i
theorem rm {l : List Nd} (hk : fo l) : ∀ (f g : Nat) (i : Int), 0 ≤ i → i < l.length → i < f → i < g → mA l f i = mA l g i
 | 0, _, _, _, _, h, _ => by omega
 | _, 0, _, _, _, _, h => by omega
 | f + 1, g + 1, i, h0, h1, h2, h3 => by
  obtain ⟨k1, k2, k3⟩ := hk i.toNat (by omega)
  simp only [mA]
  by_cases e1 : l[i.toNat]!.op = 1
  ·rw [if_pos e1, if_pos e1]
  ·rw [if_neg e1, if_neg e1]
   have ka := k2 e1
   rw [rm hk f g l[i.toNat]!.a (by omega) (by omega) (by omega) (by omega)]
   by_cases e2 : l[i.toNat]!.op = 2
   ·rw [if_pos e2, if_pos e2]
   ·have kb := k3 e1 e2
    rw [rm hk f g l[i.toNat]!.b (by omega) (by omega) (by omega) (by omega)]
theorem DV {l : List Nd} (hk : fo l) {i : Int} (h0 : 0 ≤ i) (h1 : i < l.length) : kj l i =
  if l[i.toNat]!.op = 1 then uS l[i.toNat]!.key ++ [32, 61, 32] ++ l[i.toNat]!.text
  else if l[i.toNat]!.op = 2 then
   if l[l[i.toNat]!.a.toNat]!.op = 1 then uS l[l[i.toNat]!.a.toNat]!.key ++ [32, 33, 61, 32] ++ l[l[i.toNat]!.a.toNat]!.text
   else [110, 111, 116, 32] ++ js (kj l l[i.toNat]!.a) (!decide (l[l[i.toNat]!.a.toNat]!.op = 2))
  else if l[i.toNat]!.op = 3 then js (kj l l[i.toNat]!.a) (decide (l[l[i.toNat]!.a.toNat]!.op = 4)) ++ [32, 97, 110, 100, 32] ++ js (kj l l[i.toNat]!.b) (decide (l[l[i.toNat]!.b.toNat]!.op = 4) || decide (l[l[i.toNat]!.b.toNat]!.op = 3))
  else kj l l[i.toNat]!.a ++ [32, 111, 114, 32] ++ js (kj l l[i.toNat]!.b) (decide (l[l[i.toNat]!.b.toNat]!.op = 4)) := by
 obtain ⟨k1, k2, k3⟩ := hk i.toNat (by omega)
 conv => lhs; unfold kj
 simp only [mA]
 by_cases e1 : l[i.toNat]!.op = 1
 ·rw [if_pos e1, if_pos e1]
 ·rw [if_neg e1, if_neg e1]
  have ka := k2 e1
  rw [show mA l i.toNat l[i.toNat]!.a = kj l l[i.toNat]!.a from rm hk _ _ _ (by omega) (by omega) (by omega) (by omega)]
  by_cases e2 : l[i.toNat]!.op = 2
  ·rw [if_pos e2, if_pos e2]
  ·have kb := k3 e1 e2
   rw [show mA l i.toNat l[i.toNat]!.b = kj l l[i.toNat]!.b from rm hk _ _ _ (by omega) (by omega) (by omega) (by omega)]
theorem nb (s : aq) (b : Bool) : (js s b).length ≤ s.length + 4 := by
 unfold js; split <;> simp
theorem tJ {k : Int} (h0 : 0 ≤ k) (h3 : k < 3) : lD[k.toNat]! = uS k := by
 obtain rfl | rfl | rfl : k = 0 ∨ k = 1 ∨ k = 2 := by omega
 ·rfl
 ·rfl
 ·rfl
theorem oM (k : Int) : (uS k).length ≤ 4 := by
 unfold uS
 split
 ·decide
 ·split <;> decide
theorem sM {l : List Nd} (hk : fo l) : ∀ (f : Nat) (i : Int), 0 ≤ i → i < l.length → (mA l f i).length + 20 ≤ 20 * 2 ^ (f + 1)
 | 0, i, _, _ => by simp [mA]
 | f + 1, i, h0, h1 => by
  obtain ⟨k1, k2, k3⟩ := hk i.toNat (by omega)
  have hp : 20 * 2 ^ (f + 1 + 1) = 20 * 2 ^ (f + 1) + 20 * 2 ^ (f + 1) := by rw [Nat.pow_succ 2 (f + 1)]; omega
  have h1p : 1 ≤ 2 ^ (f + 1) := Nat.one_le_two_pow
  simp only [mA]
  by_cases e1 : l[i.toNat]!.op = 1
  ·rw [if_pos e1]
   have := oM l[i.toNat]!.key
   have := k1 e1
   simp only [List.length_append, List.length_cons, List.length_nil]; omega
  ·rw [if_neg e1]
   have ka := k2 e1
   have la := sM hk f l[i.toNat]!.a (by omega) (by omega)
   have wa := fun b => nb (mA l f l[i.toNat]!.a) b
   by_cases e2 : l[i.toNat]!.op = 2
   ·rw [if_pos e2]
    split
    ·rename_i e3
     have := oM l[l[i.toNat]!.a.toNat]!.key
     have := ((hk l[i.toNat]!.a.toNat (by omega)).1 e3).2.2
     simp only [List.length_append, List.length_cons, List.length_nil]; omega
    ·have := wa (!decide (l[l[i.toNat]!.a.toNat]!.op = 2))
     simp only [List.length_append, List.length_cons, List.length_nil]; omega
   ·rw [if_neg e2]
    have kb := k3 e1 e2
    have lb := sM hk f l[i.toNat]!.b (by omega) (by omega)
    have wb := fun b => nb (mA l f l[i.toNat]!.b) b
    split
    ·have := wa (decide (l[l[i.toNat]!.a.toNat]!.op = 4))
     have := wb (decide (l[l[i.toNat]!.b.toNat]!.op = 4) || decide (l[l[i.toNat]!.b.toNat]!.op = 3))
     simp only [List.length_append, List.length_cons, List.length_nil]; omega
    ·have := wb (decide (l[l[i.toNat]!.b.toNat]!.op = 4))
     simp only [List.length_append, List.length_cons, List.length_nil]; omega
theorem sN {l : List Nd} (hk : fo l) (hl : l.length ≤ 15) {i : Int} (h0 : 0 ≤ i) (h1 : i < l.length) : (kj l i).length ≤ 1310720 := by
 have h := sM hk (i.toNat + 1) i h0 h1
 have : 2 ^ (i.toNat + 1 + 1) ≤ 2 ^ 16 := Nat.pow_le_pow_right (by omega) (by omega)
 unfold kj; omega
def od (l : List Nd) : aq := if l.length = 0 then [] else kj l ((l.length : Int) - 1)
def td (l : List Nd) : Bool := (decide (l.length ≤ 15) && mz l) && decide ((od l).length ≤ 96)
def F4 (l : List Nd) : aq := if td l = true then od l else []
abbrev PR := Option (Int × List aq × List Nd)
def uR (k : aq) : Int := if k = [111, 115] then 0 else if k = [97, 114, 99, 104] then 1 else if k = [97, 98, 105] then 2 else -1
def xp (k s v : aq) : Bool := (decide (0 ≤ uR k) && bZ v) && (decide (s = [61]) || decide (s = [33, 61]))
def vK (k s v : aq) (r : List aq) (nd : List Nd) : Int × List aq × List Nd :=
 if s = [33, 61] then (((nd ++ [(⟨1, 0, 0, uR k, v⟩ : Nd)]).length : Nat), r, (nd ++ [⟨1, 0, 0, uR k, v⟩]) ++ [⟨2, (nd.length : Nat), 0, 0, []⟩])
 else ((nd.length : Nat), r, nd ++ [⟨1, 0, 0, uR k, v⟩])
def qb (k : aq) (w : List aq) (nd : List Nd) : PR := match w with
 | s :: v :: r => if xp k s v = true then some (vK k s v r nd) else none
 | _ => none
def gE (part : List aq → List Nd → PR) (wd : aq) (op : Int) : Nat → Int → List aq → List Nd → PR
 | 0, a, w, nd => some (a, w, nd)
 | f + 1, a, w, nd => match w with
  | [] => some (a, w, nd)
  | x :: r => if x = wd then (match part r nd with
    | none => none
    | some (b, w', nd') => gE part wd op f (nd'.length : Nat) w' (nd' ++ [⟨op, a, b, 0, []⟩]))
   else some (a, w, nd)
def eN (part : List aq → List Nd → PR) (wd : aq) (op : Int) (w : List aq) (nd : List Nd) : PR := match part w nd with
 | none => none
 | some (a, w', nd') => gE part wd op w'.length a w' nd'
def ur : aq := [110, 111, 116]
def lz : aq := [40]
def rp : aq := [41]
def qy : aq := [97, 110, 100]
def xa : aq := [111, 114]
def nM (r : PR) : PR := match r with
 | some (a, x :: w', nd') => if x = rp then some (a, w', nd') else none
 | _ => none
def Fu (r : PR) : PR := match r with
 | some (a, w', nd') => some ((nd'.length : Nat), w', nd' ++ [⟨2, a, 0, 0, []⟩])
 | none => none
def nk : Nat → List aq → List Nd → PR
 | 0, _, _ => none
 | f + 1, w, nd => match w with
  | [] => none
  | k :: r => if k = ur then Fu (nk f r nd)
   else if k = lz then nM (eN (eN (nk f) qy 3) xa 4 r nd)
   else qb k r nd
def PB (w : List aq) (nd : List Nd) (w' : List aq) (nd' : List Nd) : Prop := w'.length ≤ w.length ∧ nd'.length + 2 * w'.length ≤ nd.length + 2 * w.length ∧ w' <:+ w
def qA (part : List aq → List Nd → PR) : Prop := ∀ w nd a w' nd', part w nd = some (a, w', nd') → PB w nd w' nd' ∧ w'.length < w.length
theorem PB.refl (w : List aq) (nd : List Nd) : PB w nd w nd := ⟨Nat.le_refl _, Nat.le_refl _, List.suffix_refl _⟩
theorem PB.trans {w nd w' nd' w2 nd2} (h : PB w nd w' nd') (h2 : PB w' nd' w2 nd2) : PB w nd w2 nd2 := ⟨Nat.le_trans h2.1 h.1, Nat.le_trans h2.2.1 h.2.1, h2.2.2.trans h.2.2⟩
theorem PB.tail {x : aq} {w : List aq} {nd : List Nd} {w' : List aq} {nd' : List Nd} (h : PB w nd w' nd') (n : Nd) : PB (x :: w) nd w' (nd' ++ [n]) := by
 obtain ⟨h1, h2, h3⟩ := h
 refine ⟨by simp only [List.length_cons]; omega, by simp only [List.length_append, List.length_cons, List.length_nil]; omega, h3.trans (List.suffix_cons x w)⟩
theorem PB.wX {x : aq} {w : List aq} {nd : List Nd} {w' : List aq} {nd' : List Nd} (h : PB w nd w' nd') : PB (x :: w) nd w' nd' := by
 obtain ⟨h1, h2, h3⟩ := h
 exact ⟨by simp only [List.length_cons]; omega, by simp only [List.length_cons]; omega, h3.trans (List.suffix_cons x w)⟩
theorem rW {part : List aq → List Nd → PR} (hp : qA part) (wd : aq) (op : Int) : ∀ (f : Nat) (a : Int) (w : List aq) (nd : List Nd) (a' : Int) (w' : List aq) (nd' : List Nd), gE part wd op f a w nd = some (a', w', nd') → PB w nd w' nd'
 | 0, a, w, nd, a', w', nd', h => by simp only [gE, Option.some.injEq, Prod.mk.injEq] at h; obtain ⟨rfl, rfl, rfl⟩ := h; exact .refl _ _
 | f + 1, a, [], nd, a', w', nd', h => by simp only [gE, Option.some.injEq, Prod.mk.injEq] at h; obtain ⟨rfl, rfl, rfl⟩ := h; exact .refl _ _
 | f + 1, a, x :: r, nd, a', w', nd', h => by
  simp only [gE] at h
  by_cases hx : x = wd
  ·rw [if_pos hx] at h
   cases hq : part r nd with
   | none => rw [hq] at h; cases h
   | some t =>
    obtain ⟨b, w2, nd2⟩ := t
    rw [hq] at h
    exact ((hp _ _ _ _ _ hq).1.tail _).trans (rW hp wd op f _ _ _ _ _ _ h)
  ·rw [if_neg hx] at h
   simp only [Option.some.injEq, Prod.mk.injEq] at h; obtain ⟨rfl, rfl, rfl⟩ := h; exact .refl _ _
theorem hJ {part : List aq → List Nd → PR} (hp : qA part) (wd : aq) (op : Int) : qA (eN part wd op) := by
 intro w nd a w' nd' h
 unfold eN at h
 cases hq : part w nd with
 | none => rw [hq] at h; cases h
 | some t =>
  obtain ⟨b, w2, nd2⟩ := t
  rw [hq] at h
  obtain ⟨h1, h2⟩ := hp _ _ _ _ _ hq
  have := rW hp wd op _ _ _ _ _ _ _ h
  exact ⟨h1.trans this, Nat.lt_of_le_of_lt this.1 h2⟩
theorem nH {k : aq} {w : List aq} {nd : List Nd} {a : Int} {w' : List aq} {nd' : List Nd} (h : qb k w nd = some (a, w', nd')) : PB w nd w' nd' := by
 match w, h with
 | s :: v :: r, h =>
  simp only [qb] at h
  split at h
  ·simp only [Option.some.injEq] at h
   unfold vK at h
   have hs : r <:+ s :: v :: r := (List.suffix_cons v r).trans (List.suffix_cons s _)
   split at h <;> (simp only [Prod.mk.injEq] at h; obtain ⟨rfl, rfl, rfl⟩ := h; exact ⟨by simp only [List.length_cons]; omega, by simp only [List.length_append, List.length_cons, List.length_nil]; omega, hs⟩)
  ·cases h
 | [_], h => cases h
 | [], h => cases h
theorem gH : ∀ f, qA (nk f)
 | 0 => fun w nd a w' nd' h => by cases h
 | f + 1 => by
  intro w nd a w' nd' h
  match w, h with
  | [], h => cases h
  | k :: r, h =>
   simp only [nk] at h
   split at h
   ·cases hq : nk f r nd with
    | none => rw [hq] at h; cases h
    | some t =>
     obtain ⟨b, w2, nd2⟩ := t
     rw [hq] at h
     simp only [Fu, Option.some.injEq, Prod.mk.injEq] at h
     obtain ⟨rfl, rfl, rfl⟩ := h
     obtain ⟨h1, h2⟩ := gH f _ _ _ _ _ hq
     exact ⟨h1.tail _, by simp only [List.length_cons]; omega⟩
   ·split at h
    ·cases hq : eN (eN (nk f) qy 3) xa 4 r nd with
     | none => rw [hq] at h; cases h
     | some t =>
      obtain ⟨b, w2, nd2⟩ := t
      rw [hq] at h
      obtain ⟨h1, h2⟩ := hJ (hJ (gH f) _ _) _ _ _ _ _ _ _ hq
      match w2, h, h1, h2 with
      | [], h, _, _ => cases h
      | x :: w3, h, h1, h2 =>
       simp only [nM] at h
       split at h
       ·simp only [Option.some.injEq, Prod.mk.injEq] at h
        obtain ⟨rfl, rfl, rfl⟩ := h
        exact ⟨(h1.trans (PB.refl _ _).wX).wX, by simp only [List.length_cons] at h2 ⊢; omega⟩
       ·cases h
    ·exact ⟨(nH h).wX, by have := (nH h).1; simp only [List.length_cons]; omega⟩
theorem wo {p p' : List aq → List Nd → PR} (hp : qA p) (wd : aq) (op : Int) {u : Nat} (h : ∀ w nd, w.length < u → p w nd = p' w nd) : ∀ (f : Nat) (a : Int) (w : List aq) (nd : List Nd), w.length ≤ u → gE p wd op f a w nd = gE p' wd op f a w nd
 | 0, a, w, nd, hu => rfl
 | f + 1, a, [], nd, hu => rfl
 | f + 1, a, x :: r, nd, hu => by
  simp only [List.length_cons] at hu
  simp only [gE]
  split
  ·rw [← h r nd (by omega)]
   cases hq : p r nd with
   | none => rfl
   | some t =>
    obtain ⟨b, w2, nd2⟩ := t
    have := hp _ _ _ _ _ hq
    exact wo hp wd op h f _ _ _ (by omega)
  ·rfl
theorem mD {p p' : List aq → List Nd → PR} (hp : qA p) (wd : aq) (op : Int) {u : Nat} (h : ∀ w nd, w.length < u → p w nd = p' w nd) : ∀ w nd, w.length < u → eN p wd op w nd = eN p' wd op w nd := by
 intro w nd hu
 unfold eN
 rw [← h w nd hu]
 cases hq : p w nd with
 | none => rfl
 | some t =>
  obtain ⟨b, w2, nd2⟩ := t
  have := hp _ _ _ _ _ hq
  exact wo hp wd op h _ _ _ _ (by omega)
theorem yB : ∀ (u f g : Nat) (w : List aq) (nd : List Nd), w.length < u → w.length ≤ f → w.length ≤ g → nk f w nd = nk g w nd
 | 0, _, _, _, _, h, _, _ => absurd h (Nat.not_lt_zero _)
 | u + 1, f, g, [], nd, hu, hf, hg => by cases f <;> cases g <;> rfl
 | u + 1, 0, _, _ :: _, _, _, h, _ => by simp at h
 | u + 1, _, 0, _ :: _, _, _, _, h => by simp at h
 | u + 1, f + 1, g + 1, k :: r, nd, hu, hf, hg => by
  simp only [List.length_cons] at hu hf hg
  have ih : ∀ w nd, w.length < r.length + 1 → nk f w nd = nk g w nd := fun w nd h => yB u f g w nd (by omega) (by omega) (by omega)
  simp only [nk]
  rw [ih r nd (by omega), mD (hJ (gH f) _ _) xa 4 (mD (gH f) qy 3 ih) r nd (by omega)]
def kR (w : List aq) (nd : List Nd) : PR := nk w.length w nd
def ov : List aq → List Nd → PR := eN kR qy 3
def jb : List aq → List Nd → PR := eN ov xa 4
theorem tz : qA kR := fun w nd a w' nd' h => gH _ w nd a w' nd' h
theorem xz : qA ov := hJ tz _ _
theorem uN (k : aq) (r : List aq) (nd : List Nd) : kR (k :: r) nd = if k = ur then Fu (kR r nd) else if k = lz then nM (jb r nd) else qb k r nd := by
 show nk (r.length + 1) (k :: r) nd = _
 simp only [nk]
 have ih : ∀ w nd, w.length < r.length + 1 → nk r.length w nd = kR w nd := fun w nd h => yB (r.length + 1) _ _ w nd h (by omega) (Nat.le_refl _)
 rw [show nk r.length r nd = kR r nd from rfl, mD (hJ (gH _) _ _) xa 4 (mD (gH _) qy 3 ih) r nd (by omega)]
 rfl
theorem tM {part : List aq → List Nd → PR} {wd : aq} {op : Int} {f : Nat} {a : Int} {nd : List Nd} : gE part wd op f a [] nd = some (a, [], nd) := by cases f <;> rfl
theorem Be {part : List aq → List Nd → PR} {wd : aq} {op : Int} {f : Nat} {a : Int} {w : List aq} {nd : List Nd} (h : w.head? ≠ some wd) : gE part wd op f a w nd = some (a, w, nd) := by
 cases f with
 | zero => rfl
 | succ f => match w, h with
  | [], _ => rfl
  | x :: r, h => simp only [gE]; rw [if_neg (by rintro rfl; exact h rfl)]
theorem rX {part : List aq → List Nd → PR} (hp : qA part) {wd : aq} {op : Int} : ∀ (f g : Nat) (a : Int) (w : List aq) (nd : List Nd), w.length ≤ f → w.length ≤ g → gE part wd op f a w nd = gE part wd op g a w nd
 | _, _, a, [], nd, _, _ => by rw [tM, tM]
 | 0, _, _, _ :: _, _, h, _ => by simp at h
 | _, 0, _, _ :: _, _, _, h => by simp at h
 | f + 1, g + 1, a, x :: r, nd, hf, hg => by
  simp only [List.length_cons] at hf hg
  simp only [gE]
  split
  ·cases hq : part r nd with
   | none => rfl
   | some t =>
    obtain ⟨b, w2, nd2⟩ := t
    have := hp _ _ _ _ _ hq
    exact rX hp f g _ _ _ (by omega) (by omega)
  ·rfl
def yL (part : List aq → List Nd → PR) (wd : aq) (op : Int) (a : Int) (w : List aq) (nd : List Nd) : PR := gE part wd op w.length a w nd
theorem zM {part : List aq → List Nd → PR} (hp : qA part) {wd : aq} {op : Int} {a : Int} {r : List aq} {nd : List Nd} : yL part wd op a (wd :: r) nd = match part r nd with
  | none => none
  | some (b, w', nd') => yL part wd op (nd'.length : Nat) w' (nd' ++ [⟨op, a, b, 0, []⟩]) := by
 show gE part wd op (r.length + 1) a (wd :: r) nd = _
 simp only [gE, if_true]
 cases hq : part r nd with
 | none => rfl
 | some t =>
  obtain ⟨b, w2, nd2⟩ := t
  have := hp _ _ _ _ _ hq
  exact rX hp _ _ _ _ _ (by omega) (Nat.le_refl _)
structure PO where
 a : Int
 w : List aq
 nd : List Nd
 bad : Bool
def dI (R : PR) (w : List aq) (nd : List Nd) (o : PO) : Prop := (R = some (o.a, o.w, o.nd) ∧ o.bad = false ∨ R = none ∧ o.bad = true) ∧ PB w nd o.w o.nd
def xR (s : aq) : Option (List Nd) := match jb (ar s 32) [] with
 | some (_, [], nd) => if td nd = true then some nd else none
 | _ => none
def lf (s : aq) : List Nd × Int := if 96 < s.length then ([], 3) else if s = [] then ([], 0) else match xR s with
 | some nd => (nd, 0)
 | none => ([], 7)
def oR (s : aq) : Bool := decide ((lf s).2 = 0) && decide (F4 (lf s).1 = s)
abbrev xk := List aq → D → Bool → D
def dS : xk := fun w X b => .agg [.sl 1 (w.map D.str), X, .bool b]
def pk (Γ : Ctx) (k : Nat) (ob : xk) (n : Nat) (as : List D) (w : List aq) (nd : List Nd) (b : Bool) (P : PO → Prop) (V : PO → D) : Prop :=
 ∀ (nx lp ln : Nat) (m : List (Nat × bm)) (K : D → St → Prop), look m lp = some (.buf k [ob w (.own ln 5 0 nd.length) b]) → look m ln = some (.buf 5 (nd.map Nd.D)) → lp < nx → ln < nx →
  (∀ o, P o → K (V o) ⟨nx + 1, (nx, .buf 5 (o.nd.map Nd.D)) :: cw (cg m ln) lp (.buf k [ob o.w (.own nx 5 0 o.nd.length) o.bad])⟩) → Γ.tr n (.ptr lp k 0 0 :: as) ⟨nx, m⟩ K
def HB (Γ : Ctx) (k : Nat) (ob : xk) (n : Nat) (as : List D) (w : List aq) (nd : List Nd) (b : Bool) (P : PO → Prop) (V : PO → D) : Prop :=
 ∀ (nx lp ln : Nat) (m : List (Nat × bm)) (K : D → St → Prop), look m lp = some (.buf k [ob w (.own ln 5 0 nd.length) b]) → look m ln = some (.buf 5 (nd.map Nd.D)) → lp < nx → ln < nx →
  (∀ o, P o → K (V o) ⟨nx, cw m lp (.buf k [ob o.w (.own ln 5 0 nd.length) o.bad])⟩) → Γ.tr n (.ptr lp k 0 0 :: as) ⟨nx, m⟩ K
def xl (k : Nat) (ob : xk) (P : PO → Prop) (V : PO → D) : D → List (Nat × bm) → Prop := fun d m => ∃ (o : PO) (j : Nat), 2 ≤ j ∧ P o ∧ d = V o ∧ look m 0 = some (.buf k [ob o.w (.own j 5 0 o.nd.length) o.bad]) ∧ look m j = some (.buf 5 (o.nd.map Nd.D))
def D7 (k : Nat) (ob : xk) (nd : List Nd) (P : PO → Prop) (V : PO → D) : D → List (Nat × bm) → Prop := fun d m => ∃ (o : PO), P o ∧ d = V o ∧ look m 0 = some (.buf k [ob o.w (.own 1 5 0 nd.length) o.bad]) ∧ look m 1 = some (.buf 5 (nd.map Nd.D))
def Va : PO → D := fun o => .int .i64 o.a
theorem Fo {m : List (Nat × bm)} (x : Nd) : Eu m [.a, .a, .a, .a, .a] (Nd.D x) := ⟨rfl, rfl, rfl, rfl, rfl, rfl⟩
theorem Bm {m : List (Nat × bm)} {lp ln : Nat} {w : List aq} {nd : List Nd} {b : Bool} (h1 : look m lp = some (.buf 3 [dS w (.own ln 5 0 nd.length) b])) (h2 : look m ln = some (.buf 5 (nd.map Nd.D))) :
  fV m [[.pt [.sl 1 [.a], .sl 5 [.a, .a, .a, .a, .a], .a]]] [.ptr lp 3 0 0] := by
 refine ⟨⟨by simp [dz, h1], ?_⟩, trivial⟩
 intro e he
 simp only [aE, h1, List.mem_singleton] at he
 subst he
 refine ⟨rfl, ⟨by simp [dz, h2], ?_⟩, rfl, rfl⟩
 simp only [aE, h2, List.drop_zero, aO]
 intro e he
 obtain ⟨x, _, rfl⟩ := List.mem_map.1 he
 exact Fo x
def bV (w : List aq) : aq := w.headD []
def aT (w : List aq) : List aq := if bV w = [] then w else w.drop 1
def b9 (w : List aq) (b : Bool) : Bool := if bV w = [] then true else b
theorem mY {w : List aq} {x : aq} (hx : x ≠ []) (h : bV w = x) : ∃ r, w = x :: r := by
 match w, h with
 | [], h => exact absurd h.symm hx
 | y :: r, h => exact ⟨r, by rw [show y = x from h]⟩
theorem B3 {w : List aq} (h : ¬ bV w = []) : 1 ≤ w.length := by
 match w, h with
 | [], h => exact absurd rfl h
 | _ :: _, _ => simp
theorem fD {x : aq} {r : List aq} (hx : x ≠ []) : aT (x :: r) = r := if_neg hx
theorem fC {x : aq} {r : List aq} {b : Bool} (hx : x ≠ []) : b9 (x :: r) b = b := if_neg hx
theorem Aj (w : List aq) : aT w <:+ w := by
 unfold aT
 split
 ·exact List.suffix_refl _
 ·exact List.drop_suffix 1 w
theorem kH (w : List aq) (nd : List Nd) : PB w nd (aT w) nd := by
 have h := Aj w
 have := h.length_le
 exact ⟨this, by omega, h⟩
theorem wY {w : List aq} {b : Bool} (h : b9 w b = false) : b = false ∧ bV w ≠ [] ∧ w = bV w :: aT w := by
 unfold b9 at h
 split at h
 ·cases h
 ·rename_i hs
  refine ⟨h, hs, ?_⟩
  match w, hs with
  | x :: r, hs => rw [fD (x := x) (r := r) hs]; rfl
def iY (b : Bool) (k : aq) (w : List aq) (nd : List Nd) : PR := if b = true then none else qb k w nd
theorem Ba {j : Nat} {k : aq} (hj : j < 3) (h : lD[j]! = k) : uR k = (j : Nat) := by
 obtain rfl | rfl | rfl : j = 0 ∨ j = 1 ∨ j = 2 := by omega
 all_goals (subst h; rfl)
theorem zJ {k : aq} (h : 0 ≤ uR k) : ∃ j, j < 3 ∧ lD[j]! = k ∧ uR k = (j : Nat) := by
 unfold uR at h ⊢
 by_cases h1 : k = [111, 115]
 ·exact ⟨0, by omega, h1.symm, by rw [if_pos h1]; rfl⟩
 ·by_cases h2 : k = [97, 114, 99, 104]
  ·exact ⟨1, by omega, h2.symm, by rw [if_neg h1, if_pos h2]; rfl⟩
  ·by_cases h3 : k = [97, 98, 105]
   ·exact ⟨2, by omega, h3.symm, by rw [if_neg h1, if_neg h2, if_pos h3]; rfl⟩
   ·rw [if_neg h1, if_neg h2, if_neg h3] at h; omega
def xK (j : Nat) (k s v : aq) (bad : Bool) : Bool := !(((!decide (lD[j]! = k) || bad) || (!decide (s = [61]) && !decide (s = [33, 61]))) || !bZ v)
theorem A2 {j : Nat} {k : aq} {w : List aq} {nd : List Nd} {b : Bool} (hj : j < 3) (h : xK j k (bV w) (bV (aT w)) (b9 (aT w) (b9 w b)) = true) :
  iY b k w nd = some (vK k (bV w) (bV (aT w)) (aT (aT w)) nd) ∧ uR k = (j : Nat) ∧ b9 (aT w) (b9 w b) = false := by
 have h0 := h
 simp only [xK, Bool.not_or, Bool.and_eq_true, Bool.not_not, decide_eq_true_eq, Bool.not_eq_true', Bool.not_and, Bool.or_eq_true] at h
 obtain ⟨⟨⟨h1, h2⟩, h3⟩, h4⟩ := h
 have hk := Ba hj h1
 obtain ⟨g1, g2, g3⟩ := wY h2
 obtain ⟨g4, g5, g6⟩ := wY g1
 refine ⟨?_, hk, h2⟩
 unfold iY
 rw [g4, if_neg (by simp)]
 conv => lhs; rw [g6, g3]
 simp only [qb]
 rw [if_pos]
 simp only [xp, Bool.and_eq_true, Bool.or_eq_true, decide_eq_true_eq]
 exact ⟨⟨by omega, h4⟩, h3⟩
theorem C6 {k : aq} {w : List aq} {nd : List Nd} {b : Bool} (h : ∀ j, j < 3 → xK j k (bV w) (bV (aT w)) (b9 (aT w) (b9 w b)) = false) : iY b k w nd = none := by
 unfold iY
 split
 ·rfl
 ·rename_i hb
  match w with
  | [] => rfl
  | [_] => rfl
  | s :: v :: r =>
   simp only [qb]
   rw [if_neg]
   intro ha
   simp only [xp, Bool.and_eq_true, Bool.or_eq_true, decide_eq_true_eq] at ha
   obtain ⟨⟨h1, h2⟩, h3⟩ := ha
   obtain ⟨j, hj, hj2, _⟩ := zJ h1
   have hs : s ≠ [] := by rintro rfl; rcases h3 with h | h <;> cases h
   have hv : v ≠ [] := by rintro rfl; cases h2
   have := h j hj
   rw [fD hs, fC hs, fC hv] at this
   simp only [Bool.not_eq_true] at hb
   subst hb
   revert this
   simp only [xK, bV, List.headD_cons, hj2, h2, decide_true]
   rcases h3 with rfl | rfl <;> simp
theorem yu (w : List aq) (nd : List Nd) : PB w nd (aT (aT w)) nd := (kH w nd).trans (kH _ nd)
theorem ru {b : Bool} {k : aq} {w : List aq} {nd : List Nd} {a : Int} {w' : List aq} {nd' : List Nd} (h : iY b k w nd = some (a, w', nd')) : PB w nd w' nd' := by
 unfold iY at h
 split at h
 ·cases h
 ·exact nH h
theorem AS {w : List aq} {nd : List Nd} (h1 : bV w ≠ ur) (h2 : bV w ≠ lz) : kR w nd = iY (b9 w false) (bV w) (aT w) nd := by
 match w with
 | [] => rfl
 | k :: r =>
  have h1 : k ≠ ur := h1
  have h2 : k ≠ lz := h2
  rw [uN, if_neg h1, if_neg h2]
  by_cases hk : k = []
  ·subst hk
   show qb [] r nd = none
   match r with
   | [] => rfl
   | [_] => rfl
   | s :: v :: r => rfl
  ·rw [fD hk, fC hk]; rfl
theorem AJ {R : PR} {o : PO} {w : List aq} {nd : List Nd} (h : dI R w nd o) (hs : bV o.w ≠ rp) : nM R = none := by
 rcases h.1 with ⟨h1, _⟩ | ⟨h1, _⟩
 ·rw [h1]
  match ho : o.w, hs with
  | [], _ => rfl
  | x :: r, hs => simp only [nM]; exact if_neg hs
 ·rw [h1]; rfl
theorem dI.pb {R : PR} {o : PO} {w : List aq} {nd : List Nd} (h : dI R w nd o) : PB w nd o.w o.nd := h.2
theorem Dx {r : List aq} {nd : List Nd} {o : PO} (h : dI (kR r nd) r nd o) : dI (kR (ur :: r) nd) (ur :: r) nd ⟨(o.nd.length : Nat), o.w, o.nd ++ [⟨2, o.a, 0, 0, []⟩], o.bad⟩ := by
 refine ⟨?_, h.2.tail _⟩
 rw [uN, if_pos rfl]
 rcases h.1 with ⟨h1, h2⟩ | ⟨h1, h2⟩
 ·left; rw [h1]; exact ⟨rfl, h2⟩
 ·right; rw [h1]; exact ⟨rfl, h2⟩
theorem vX (r : List aq) (nd : List Nd) : kR (lz :: r) nd = nM (jb r nd) := by rw [uN, if_neg (by decide), if_pos rfl]
theorem wF {r : List aq} {nd : List Nd} {o : PO} (h : dI (jb r nd) r nd o) (hs : ¬ bV o.w = rp) : dI (kR (lz :: r) nd) (lz :: r) nd ⟨o.a, aT o.w, o.nd, true⟩ :=
 ⟨.inr ⟨by rw [vX, AJ h hs], rfl⟩, h.2.wX.trans (kH _ _)⟩
theorem BC {r : List aq} {nd : List Nd} {o : PO} (h : dI (jb r nd) r nd o) (hs : bV o.w = rp) : dI (kR (lz :: r) nd) (lz :: r) nd ⟨o.a, aT o.w, o.nd, b9 o.w o.bad⟩ := by
 refine ⟨?_, h.2.wX.trans (kH _ _)⟩
 obtain ⟨q, hq⟩ := mY (by decide) hs
 rw [vX, hq, fD (by decide), fC (by decide)]
 rcases h.1 with ⟨h1, h2⟩ | ⟨h1, h2⟩
 ·left; rw [h1, hq]; exact ⟨by simp only [nM, if_true], h2⟩
 ·right; rw [h1]; exact ⟨rfl, h2⟩
theorem BB {w : List aq} {nd : List Nd} {o : PO} (hf : kR w nd = iY (b9 w false) (bV w) (aT w) nd) (h : dI (iY (b9 w false) (bV w) (aT w) nd) (aT w) nd o) : dI (kR w nd) w nd o :=
 ⟨by rw [hf]; exact h.1, (kH w nd).trans h.2⟩
theorem Fm {s : aq} {o : PO} (h : dI (jb (ar s 32) []) (ar s 32) [] o) (hc : ((o.bad || decide ((0 : Int) < (o.w.length : Nat))) || !td o.nd) = true) : xR s = none := by
 unfold xR
 rcases h.1 with ⟨h1, h2⟩ | ⟨h1, h2⟩
 ·rw [h1]
  match hw : o.w with
  | [] =>
   simp only [h2, hw, List.length_nil, Bool.false_or] at hc
   have : td o.nd = false := by simpa using hc
   simp only [this, Bool.false_eq_true, if_false]
  | x :: r => rfl
 ·rw [h1]
theorem Dm {s : aq} {o : PO} (h : dI (jb (ar s 32) []) (ar s 32) [] o) (hc : ((o.bad || decide ((0 : Int) < (o.w.length : Nat))) || !td o.nd) = false) : xR s = some o.nd := by
 simp only [Bool.or_eq_false_iff, decide_eq_false_iff_not, Bool.not_eq_false'] at hc
 unfold xR
 rcases h.1 with ⟨h1, h2⟩ | ⟨h1, h2⟩
 ·rw [h1]
  match hw : o.w with
  | [] => simp only [hc.2, if_true]
  | x :: r => exact absurd hc.1.2 (by rw [hw]; simp)
 ·rw [h2] at hc; exact absurd hc.1.1 (by simp)
theorem Dl {s : aq} {nd : List Nd} (h1 : ¬ 96 < s.length) (h2 : ¬ s = []) (h : xR s = some nd) : lf s = (nd, 0) := by simp only [lf, h, if_neg h1, if_neg h2]
theorem Dk {s : aq} (h1 : ¬ 96 < s.length) (h2 : ¬ s = []) (h : xR s = none) : lf s = ([], 7) := by simp only [lf, h, if_neg h1, if_neg h2]
def Ci (part : List aq → List Nd → PR) (wd : aq) (op : Int) (R : PR) (w : List aq) (nd : List Nd) (o : PO) : Prop := (o.bad = false ∧ R = yL part wd op o.a o.w o.nd ∨ o.bad = true ∧ R = none) ∧ PB w nd o.w o.nd
theorem Ci.first {part : List aq → List Nd → PR} {wd : aq} {op : Int} {w : List aq} {nd : List Nd} {o : PO} (h : dI (part w nd) w nd o) : Ci part wd op (eN part wd op w nd) w nd o := by
 refine ⟨?_, h.2⟩
 rcases h.1 with ⟨h1, h2⟩ | ⟨h1, h2⟩
 ·left; refine ⟨h2, ?_⟩; unfold eN; rw [h1]; rfl
 ·right; refine ⟨h2, ?_⟩; unfold eN; rw [h1]
theorem Ci.next {part : List aq → List Nd → PR} (hp : qA part) {wd : aq} {op : Int} {R : PR} {w : List aq} {nd : List Nd} {a : Int} {r : List aq} {nd1 : List Nd} {o : PO} (h : Ci part wd op R w nd ⟨a, wd :: r, nd1, false⟩) (h2 : dI (part r nd1) r nd1 o) :
  Ci part wd op R w nd ⟨(o.nd.length : Nat), o.w, o.nd ++ [⟨op, a, o.a, 0, []⟩], o.bad⟩ := by
 refine ⟨?_, h.2.trans (h2.2.tail _)⟩
 rcases h.1 with ⟨_, h1⟩ | ⟨h1, _⟩
 ·rw [zM hp] at h1
  rcases h2.1 with ⟨g1, g2⟩ | ⟨g1, g2⟩
  ·left; exact ⟨g2, by rw [h1, g1]⟩
  ·right; exact ⟨g2, by rw [h1, g1]⟩
 ·cases h1
theorem Ci.last {part : List aq → List Nd → PR} {wd : aq} {op : Int} {R : PR} {w : List aq} {nd : List Nd} {o : PO} (h : Ci part wd op R w nd o) (hx : o.bad = true ∨ o.w.head? ≠ some wd) : dI R w nd o := by
 refine ⟨?_, h.2⟩
 rcases h.1 with ⟨h1, h2⟩ | ⟨h1, h2⟩
 ·left
  refine ⟨?_, h1⟩
  rw [h2]
  unfold yL
  rw [Be]
  rcases hx with hx | hx
  ·rw [h1] at hx; cases hx
  ·exact hx
 ·right; exact ⟨h2, h1⟩
theorem PB.DS {w w' : List aq} {nd nd' : List Nd} {W : List aq} (h : PB w nd w' nd') (hW : w <:+ W) : w' <:+ W := h.2.2.trans hW
def pG (f : Nat → Int) : Nat → Nat → Int
 | _, 0 => 0
 | i, k + 1 => if f i = 0 then pG f (i + 1) k else f i
def il (f : Nat → Int) (i n : Nat) : Int := pG f i (n - i)
theorem tE {f : Nat → Int} {i n : Nat} (h : i < n) (hf : f i = 0) : il f i n = il f (i + 1) n := by
 unfold il
 obtain ⟨k, hk⟩ : ∃ k, n - i = k + 1 := ⟨n - i - 1, by omega⟩
 rw [hk, show n - (i + 1) = k by omega]; simp only [pG, hf, if_true]
theorem rK {f : Nat → Int} {i n : Nat} (h : i < n) (hf : f i ≠ 0) : il f i n = f i := by
 unfold il
 obtain ⟨k, hk⟩ : ∃ k, n - i = k + 1 := ⟨n - i - 1, by omega⟩
 rw [hk]; simp only [pG, hf, if_false]
theorem tD {f : Nat → Int} {i n : Nat} (h : n ≤ i) : il f i n = 0 := by
 unfold il; rw [show n - i = 0 by omega]; rfl
def kU (f : Nat → Int) : Nat → Nat → Int × Int
 | _, 0 => (0, 0)
 | i, k + 1 => if f i = 0 then kU f (i + 1) k else (f i, ((i : Nat) : Int))
def fP (f : Nat → Int) (i n : Nat) : Int × Int := kU f i (n - i)
theorem pF {f : Nat → Int} {i n : Nat} (h : i < n) (hf : f i = 0) : fP f i n = fP f (i + 1) n := by
 unfold fP
 obtain ⟨k, hk⟩ : ∃ k, n - i = k + 1 := ⟨n - i - 1, by omega⟩
 rw [hk, show n - (i + 1) = k by omega]; simp only [kU, hf, if_true]
theorem kT {f : Nat → Int} {i n : Nat} (h : i < n) (hf : f i ≠ 0) : fP f i n = (f i, ((i : Nat) : Int)) := by
 unfold fP
 obtain ⟨k, hk⟩ : ∃ k, n - i = k + 1 := ⟨n - i - 1, by omega⟩
 rw [hk]; simp only [kU, hf, if_false]
theorem pE {f : Nat → Int} {i n : Nat} (h : n ≤ i) : fP f i n = (0, 0) := by
 unfold fP; rw [show n - i = 0 by omega]; rfl
def kJ (r : Rec) (name rng : aq) : Int := if eW name = false then 4 else if name = r.name then 8 else if rh rng = false then 6 else 0
def FQ (l : List aq) (i : Nat) : Bool := bZ l[i]! && !(decide (0 < i) && !Op.bytesLess l[i - 1]! l[i]!)
def pc (l : List aq) (alone : Bool) : Bool := (decide (l.length ≤ 6) && (alone || decide (l.length = 0))) && bO (FQ l) 0 l.length
def lF (r : Rec) (w : aR) (alone : Bool) : Int := if kJ r w.name w.range ≠ 0 then kJ r w.name w.range else if pc w.feats alone = false then 11 else 0
def pd (r : Rec) (l : List aR) : Int := il (fun i => lF r l[i]! (decide ((l.length : Int) = 1))) 0 l.length
def jK (r : Rec) (n : aJ) : Int := if n.any.length = 0 then 9 else if 3 < n.any.length then 3 else if pd r n.any ≠ 0 then pd r n.any else
 if oR n.when' = false then 7 else if n.option ≠ [] ∧ bZ n.option = false then 14 else 0
def vL (r : Rec) (b : ec) : Int := if kJ r b.name b.range ≠ 0 then kJ r b.name b.range else if oR b.when' = false then 7 else 0
def HT (l : List aJ) (x : aq) : Bool := l.any fun n => decide (n.option = x)
def El (l : List aJ) (x : aq) : Bool := l.any fun n => decide (n.any.length = 1) && decide (n.any[0]!.name = x)
def me (r : Rec) (s : aq) : Int := if (cB s).1 = 2 ∧ HT r.needs (cB s).2.1 = false then 14 else if (cB s).1 = 3 ∧ El r.needs (cB s).2.1 = false then 16 else 0
def pK (r : Rec) (of : List aq) : Int := il (fun i => me r of[i]!) 0 of.length
def lh (r : Rec) : Int × Int := fP (fun i => jK r r.needs[i]!) 0 r.needs.length
def ry (r : Rec) : Int × Int := fP (fun i => vL r r.bars[i]!) 0 r.bars.length
def xD (r : Rec) : Int × Int := fP (fun i => pK r r.feats[i]!.of) 0 r.feats.length
def ee (r : Rec) : Int × Int := if (lh r).1 ≠ 0 then lh r else if (ry r).1 ≠ 0 then ry r else if ik r.feats = false then (11, 0) else xD r
theorem Cb (n : Nat) (al : Bool) : (decide ((6 : Int) < (n : Nat)) || (decide ((0 : Int) < (n : Nat)) && !al)) = !(decide (n ≤ 6) && (al || decide (n = 0))) := by
 rw [show decide ((6 : Int) < (n : Nat)) = !decide (n ≤ 6) from by rw [← decide_not]; exact decide_eq_decide.2 (by omega), show decide ((0 : Int) < (n : Nat)) = !decide (n = 0) from by rw [← decide_not]; exact decide_eq_decide.2 (by omega)]
 generalize decide (n ≤ 6) = a
 generalize decide (n = 0) = b
 cases a <;> cases b <;> cases al <;> rfl
theorem Ih (l : List aq) (i : Nat) : (!bZ l[i]! || (decide ((0 : Int) < (i : Nat)) && !Op.bytesLess l[i - 1]! l[i]!)) = !FQ l i := by
 unfold FQ
 rw [show decide ((0 : Int) < (i : Nat)) = decide (0 < i) from decide_eq_decide.2 (by omega)]
 generalize bZ l[i]! = a
 generalize decide (0 < i) = b
 generalize Op.bytesLess l[i - 1]! l[i]! = c
 cases a <;> cases b <;> cases c <;> rfl
def Cl (k : Int) (x : aq) (n : aJ) : Bool := (decide (k = 2) && decide (n.option = x)) || ((decide (k = 3) && decide ((n.any.length : Int) = 1)) && decide (n.any[0]!.name = x))
def Fh (k : Int) : Int := if k = 2 then 14 else if k = 3 then 16 else 0
theorem A9 (r : Rec) (s : aq) : me r s = if r.needs.any (Cl (cB s).1 (cB s).2.1) = true then 0 else Fh (cB s).1 := by
 unfold me Fh HT El
 generalize (cB s).1 = k
 generalize (cB s).2.1 = x
 by_cases h2 : k = 2
 ·subst h2
  have : Cl 2 x = fun n => decide (n.option = x) := by funext n; simp [Cl]
  rw [this]
  cases r.needs.any fun n => decide (n.option = x) <;> simp
 ·by_cases h3 : k = 3
  ·subst h3
   have : Cl 3 x = fun n => decide (n.any.length = 1) && decide (n.any[0]!.name = x) := by
    funext n
    simp only [Cl]
    rw [show decide ((n.any.length : Int) = 1) = decide (n.any.length = 1) from decide_eq_decide.2 (by omega)]
    simp
   rw [this]
   cases r.needs.any fun n => decide (n.any.length = 1) && decide (n.any[0]!.name = x) <;> simp
  ·have : Cl k x = fun _ => false := by funext n; simp [Cl, h2, h3]
   rw [this]
   simp [h2, h3]
theorem CG {α : Type} [Inhabited α] {c : α → Bool} {l : List α} {i : Nat} (h : i < l.length) (hc : c l[i]! = true) : (l.drop i).any c = true := by
 rw [List.drop_eq_getElem_cons h, List.any_cons]
 have : l[i]! = l[i] := by simp [h]
 rw [← this, hc, Bool.true_or]
theorem E2 {α : Type} [Inhabited α] {c : α → Bool} {l : List α} {i : Nat} (h : i < l.length) (hc : c l[i]! = false) : (l.drop i).any c = (l.drop (i + 1)).any c := by
 rw [List.drop_eq_getElem_cons h, List.any_cons]
 have : l[i]! = l[i] := by simp [h]
 rw [← this, hc, Bool.false_or]
theorem CF {α : Type} {c : α → Bool} {l : List α} {i : Nat} (h : l.length ≤ i) : (l.drop i).any c = false := by
 rw [List.drop_eq_nil_of_le h]; rfl
def ie : aq := [110, 101, 101, 100]
def jy : aq := [97, 110, 121]
def j5 : aq := [119, 104, 101, 110]
def dH : aq := [111, 112, 116, 105, 111, 110]
def jq : aq := [98, 97, 114]
def cO : aq := [102, 101, 97, 116, 117, 114, 101]
def dt : aq := [112, 97, 99, 107, 97, 103, 101]
def mB : aq := [102, 117, 108, 108]
def ic : aq := [98, 97, 114, 101]
def bR (l : List aq) : aq := bj [32] l ++ [10]
def sQ (w : aR) : List aq := [jy, w.name, if w.feats.length = 0 then [45] else bj [44] w.feats, if w.bare = true then ic else mB, w.range]
def jr (s : aq) : aq := if s = [] then [] else bR [j5, s]
def wE (s : aq) : aq := if s = [] then [] else bR [dH, s]
def qo (n : aJ) : aq := bR [ie] ++ (n.any.map fun w => bR (sQ w)).flatten ++ jr n.when' ++ wE n.option
def vM (b : ec) : aq := bR [jq, b.name, b.range] ++ jr b.when'
def rH (f : ba) : aq := bR ([cO, f.name] ++ f.of)
def oJ (r : Rec) : aq := bR [dt, r.name, oc r.v]
def o9 (r : Rec) : aq := oJ r ++ (r.needs.map qo).flatten ++ (r.bars.map vM).flatten ++ (r.feats.map rH).flatten
def cC (r : Rec) : Int × Int := if eW r.name = false then (4, 0) else if jo r.v = false then (5, 0) else if 8 < r.needs.length ∨ 8 < r.bars.length then (3, 0) else
 if (ee r).1 ≠ 0 then ee r else if 4096 < (o9 r).length then (3, 0) else (0, 0)
def lj (r : Rec) : aq × Int := if (cC r).1 ≠ 0 then ([], (cC r).1) else (o9 r, 0)
def aR.sm (w : aR) : Prop := (w.name.length ≤ 1048576 ∧ w.range.length ≤ 1048576) ∧ ∀ t ∈ w.feats, t.length ≤ 1048576
def aJ.sm (n : aJ) : Prop := (∀ w ∈ n.any, w.sm) ∧ n.when'.length ≤ 1048576 ∧ n.option.length ≤ 1048576
def ec.sm (b : ec) : Prop := b.name.length ≤ 1048576 ∧ b.range.length ≤ 1048576 ∧ b.when'.length ≤ 1048576
def kD (r : Rec) : Prop := (r.name.length ≤ 1048576 ∧ r.v.sm) ∧ (∀ n ∈ r.needs, n.sm) ∧ (∀ b ∈ r.bars, b.sm) ∧ qU r.feats
theorem BE {r : Rec} {e : Int × Int} (h : lh r = e) (hn : e.1 ≠ 0) : ee r = e := by rw [ee, if_pos (by rw [h]; exact hn), h]
theorem wG {r : Rec} {e : Int × Int} (h0 : lh r = (0, 0)) (h : ry r = e) (hn : e.1 ≠ 0) : ee r = e := by rw [ee, if_neg (by rw [h0]; simp), if_pos (by rw [h]; exact hn), h]
theorem BF {r : Rec} (h0 : lh r = (0, 0)) (h1 : ry r = (0, 0)) (h : ik r.feats = false) : ee r = (11, 0) := by rw [ee, if_neg (by rw [h0]; simp), if_neg (by rw [h1]; simp), if_pos h]
theorem wH {r : Rec} {e : Int × Int} (h0 : lh r = (0, 0)) (h1 : ry r = (0, 0)) (h : ik r.feats = true) (h2 : xD r = e) : ee r = e := by rw [ee, if_neg (by rw [h0]; simp), if_neg (by rw [h1]; simp), if_neg (by rw [h]; simp), h2]
theorem vZ (f : Nat → Int) : ∀ (k i : Nat), (kU f i k).1 = 0 → kU f i k = (0, 0)
 | 0, _, _ => rfl
 | k + 1, i, h => by
  simp only [kU] at h ⊢
  by_cases hf : f i = 0
  ·rw [if_pos hf] at h ⊢; exact vZ f k (i + 1) h
  ·rw [if_neg hf] at h; exact absurd h hf
theorem BG {r : Rec} (h : (ee r).1 = 0) : ee r = (0, 0) := by
 unfold ee at h ⊢
 split
 ·rename_i h1; rw [if_pos h1] at h; exact absurd h h1
 ·rename_i h1
  rw [if_neg h1] at h
  split
  ·rename_i h2; rw [if_pos h2] at h; exact absurd h h2
  ·rename_i h2
   rw [if_neg h2] at h
   split
   ·rename_i h3; rw [if_pos h3] at h; cases h
   ·rename_i h3
    rw [if_neg h3] at h
    exact vZ _ _ _ h
theorem lT {r : Rec} {e : Int × Int} (h0 : eW r.name = true) (h1 : jo r.v = true) (h2 : ¬ 8 < r.needs.length) (h3 : ¬ 8 < r.bars.length) (hp : ee r = e) (hn : e.1 ≠ 0) : cC r = e := by
 rw [cC, if_neg (by simp [h0]), if_neg (by simp [h1]), if_neg (by rintro (h | h); exact h2 h; exact h3 h), if_pos (by rw [hp]; exact hn), hp]
theorem vR {r : Rec} (h0 : eW r.name = true) (h1 : jo r.v = true) (h2 : ¬ 8 < r.needs.length) (h3 : ¬ 8 < r.bars.length) (hp : ee r = (0, 0)) : cC r = if 4096 < (o9 r).length then (3, 0) else (0, 0) := by
 rw [cC, if_neg (by simp [h0]), if_neg (by simp [h1]), if_neg (by rintro (h | h); exact h2 h; exact h3 h), if_neg (by rw [hp]; simp)]
def tG (r : Rec) : Prop := (eW r.name = true ∧ jo r.v = true) ∧ (r.needs.length ≤ 8 ∧ r.bars.length ≤ 8) ∧ ee r = (0, 0)
def nP (n : Nat) (l : List aq) : List aq := if l.length ≤ n then l else l.take (n - 1) ++ [bj [32] (l.drop (n - 1))]
def cS (n : Nat) (op : Bool) (t : aq) : List aq := if op = true then nP n (ar t 32) else ar t 32
def jg (w : aq) (n : Nat) (op : Bool) (t : aq) : Option (List aq) :=
 if (cS n op t)[0]! = w ∧ (n = 0 ∨ (cS n op t).length = n) ∧ [] ∉ cS n op t then some (cS n op t) else none
def bC (w : aq) (n : Nat) (op : Bool) : List aq → Option (List aq × List aq)
 | [] => none
 | t :: r => match jg w n op t with
  | some l => some (l, r)
  | none => none
def bw (ls : List aq) : aq × List aq := match bC j5 2 true ls with
 | some (l, r) => (l[1]!, r)
 | none => ([], ls)
def qi (l : List aq) : Bool := decide (l[3]! = ic) || decide (l[3]! = mB)
def eP (l : List aq) : aR := ⟨l[1]!, l[4]!, if l[2]! = [45] then [] else ar l[2]! 44, decide (l[3]! = ic)⟩
def cl : List aq → List aR × List aq
 | [] => ([], [])
 | t :: r => match jg jy 5 true t with
  | some l => if qi l = true then (eP l :: (cl r).1, (cl r).2) else ([], t :: r)
  | none => ([], t :: r)
def pQ (ls : List aq) : aq × List aq := match bC dH 2 false ls with
 | some (l, r) => (l[1]!, r)
 | none => ([], ls)
def c7 (ls : List aq) : aJ × List aq := (⟨(cl ls).1, (bw (cl ls).2).1, (pQ (bw (cl ls).2).2).1⟩, (pQ (bw (cl ls).2).2).2)
def iq : Nat → List aq → List aJ × List aq
 | 0, ls => ([], ls)
 | f + 1, ls => match bC ie 1 false ls with
  | some (_, r) => ((c7 r).1 :: (iq f (c7 r).2).1, (iq f (c7 r).2).2)
  | none => ([], ls)
def lB : Nat → List aq → List ec × List aq
 | 0, ls => ([], ls)
 | f + 1, ls => match bC jq 3 true ls with
  | some (l, r) => (⟨l[1]!, l[2]!, (bw r).1⟩ :: (lB f (bw r).2).1, (lB f (bw r).2).2)
  | none => ([], ls)
def dw : List aq → List ba × List aq
 | [] => ([], [])
 | t :: r => match jg cO 0 false t with
  | some l => if 2 ≤ l.length then (⟨l[1]!, l.drop 2⟩ :: (dw r).1, (dw r).2) else ([], t :: r)
  | none => ([], t :: r)
def nt : Rec := ⟨[], iy, [], [], []⟩
def ew (ls : List aq) : List aJ × List aq := iq ls.length ls
def jz (ls : List aq) : List ec × List aq := lB ls.length ls
def rz (nm : aq) (v : dP) (r : List aq) : Rec × List aq := (⟨nm, v, (ew r).1, (jz (ew r).2).1, (dw (jz (ew r).2).2).1⟩, (dw (jz (ew r).2).2).2)
def pX (ls : List aq) : Option (Rec × List aq) := match bC dt 3 false ls with
 | some (l, r) => match lL l[2]! with
  | some v => some (rz l[1]! v r)
  | none => none
 | none => none
theorem gJ {w : aq} {n : Nat} {op : Bool} {ls l r : List aq} (h : bC w n op ls = some (l, r)) : r.length + 1 = ls.length := by
 match ls, h with
 | t :: q, h =>
  simp only [bC] at h
  split at h
  ·cases h; rfl
  ·cases h
 | [], h => cases h
theorem p9 (ls : List aq) : (bw ls).2.length ≤ ls.length := by
 unfold bw
 split
 ·rename_i l r h; have := gJ h; simp only; omega
 ·exact Nat.le_refl _
theorem Bx (ls : List aq) : (pQ ls).2.length ≤ ls.length := by
 unfold pQ
 split
 ·rename_i l r h; have := gJ h; simp only; omega
 ·exact Nat.le_refl _
theorem qz : ∀ ls : List aq, (cl ls).2.length ≤ ls.length
 | [] => Nat.le_refl _
 | t :: r => by
  have := qz r
  simp only [cl]
  split
  ·split
   ·simp only [List.length_cons]; omega
   ·exact Nat.le_refl _
  ·exact Nat.le_refl _
theorem tO (ls : List aq) : (c7 ls).2.length ≤ ls.length := by
 have h1 := qz ls
 have h2 := p9 (cl ls).2
 have h3 := Bx (bw (cl ls).2).2
 show (pQ (bw (cl ls).2).2).2.length ≤ _
 omega
theorem tP : ∀ (f g : Nat) (ls : List aq), ls.length ≤ f → ls.length ≤ g → iq f ls = iq g ls
 | 0, 0, _, _, _ => rfl
 | 0, g + 1, ls, h, _ => by
  have : ls = [] := List.length_eq_zero_iff.1 (by omega)
  subst this; rfl
 | f + 1, 0, ls, _, h => by
  have : ls = [] := List.length_eq_zero_iff.1 (by omega)
  subst this; rfl
 | f + 1, g + 1, ls, hf, hg => by
  simp only [iq]
  cases h : bC ie 1 false ls with
  | none => rfl
  | some p =>
   obtain ⟨l, r⟩ := p
   have h1 := gJ h
   have h2 := tO r
   simp only
   rw [tP f g _ (by omega) (by omega)]
theorem vN : ∀ (f g : Nat) (ls : List aq), ls.length ≤ f → ls.length ≤ g → lB f ls = lB g ls
 | 0, 0, _, _, _ => rfl
 | 0, g + 1, ls, h, _ => by
  have : ls = [] := List.length_eq_zero_iff.1 (by omega)
  subst this; rfl
 | f + 1, 0, ls, _, h => by
  have : ls = [] := List.length_eq_zero_iff.1 (by omega)
  subst this; rfl
 | f + 1, g + 1, ls, hf, hg => by
  simp only [lB]
  cases h : bC jq 3 true ls with
  | none => rfl
  | some p =>
   obtain ⟨l, r⟩ := p
   have h1 := gJ h
   have h2 := p9 r
   simp only
   rw [vN f g _ (by omega) (by omega)]
theorem wv {ls l r : List aq} (h : bC ie 1 false ls = some (l, r)) : ew ls = ((c7 r).1 :: (ew (c7 r).2).1, (ew (c7 r).2).2) := by
 have h1 := gJ h
 have h2 := tO r
 unfold ew
 rw [← h1]
 simp only [iq, h]
 rw [tP r.length (c7 r).2.length _ h2 (Nat.le_refl _)]
theorem wu {ls : List aq} (h : bC ie 1 false ls = none) : ew ls = ([], ls) := by
 unfold ew
 match ls, h with
 | [], _ => rfl
 | t :: r, h => simp only [List.length_cons, iq, h]
theorem xr {ls l r : List aq} (h : bC jq 3 true ls = some (l, r)) : jz ls = (⟨l[1]!, l[2]!, (bw r).1⟩ :: (jz (bw r).2).1, (jz (bw r).2).2) := by
 have h1 := gJ h
 have h2 := p9 r
 unfold jz
 rw [← h1]
 simp only [lB, h]
 rw [vN r.length (bw r).2.length _ h2 (Nat.le_refl _)]
theorem xq {ls : List aq} (h : bC jq 3 true ls = none) : jz ls = ([], ls) := by
 unfold jz
 match ls, h with
 | [], _ => rfl
 | t :: r, h => simp only [List.length_cons, lB, h]
structure RdS where
 r : Rec
 st : Nat
 deriving Inhabited
theorem CW (a b : Bool) : et (D.bool a).cells (D.bool b).cells = decide (a = b) := by cases a <;> cases b <;> rfl
theorem aR.mr (a b : aR) : decide (a = b) = (((decide (a.name = b.name) && decide (a.range = b.range)) && decide (a.bare = b.bare)) && decide (a.feats = b.feats)) := by
 obtain ⟨a1, a2, a3, a4⟩ := a
 obtain ⟨b1, b2, b3, b4⟩ := b
 simp only [aR.mk.injEq, Bool.decide_and]
 ac_rfl
theorem aJ.mr (a b : aJ) : decide (a = b) = ((decide (a.when' = b.when') && decide (a.option = b.option)) && decide (a.any = b.any)) := by
 obtain ⟨a1, a2, a3⟩ := a
 obtain ⟨b1, b2, b3⟩ := b
 simp only [aJ.mk.injEq, Bool.decide_and]
 ac_rfl
theorem aJ.H4 {a b : aJ} (e1 : a.when' = b.when') (e2 : a.option = b.option) (e3 : a.any.length = b.any.length) : decide (a = b) = bO (fun i => decide (a.any[i]! = b.any[i]!)) 0 a.any.length := by
 rw [aJ.mr, decide_eq_true e1, decide_eq_true e2, ← eA e3]; rfl
theorem Rec.mr (a b : Rec) : decide (a = b) = ((((decide (a.name = b.name) && decide (a.v = b.v)) && decide (a.needs = b.needs)) && decide (a.bars = b.bars)) && decide (a.feats = b.feats)) := by
 obtain ⟨a1, a2, a3, a4, a5⟩ := a
 obtain ⟨b1, b2, b3, b4, b5⟩ := b
 simp only [Rec.mk.injEq, Bool.decide_and]
 ac_rfl
theorem ba.eq2 {a b : ba} (h1 : a.name = b.name) (h2 : a.of = b.of) : a = b := by
 obtain ⟨a1, a2⟩ := a
 obtain ⟨b1, b2⟩ := b
 simp only at h1 h2
 subst h1; subst h2; rfl
end Go.Abs
