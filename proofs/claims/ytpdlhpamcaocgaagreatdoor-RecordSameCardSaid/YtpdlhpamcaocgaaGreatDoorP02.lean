/- A part of the proofs of the statements: AbsU, AbsM, AbsN, AbsA. -/
import Derived.Deep.DeepAppendWide
import Derived.Great.BuildSlice
import Derived.Laws.Cover4
import Derived.Laws.IdiomStrings
import Derived.Laws.MakeOwn
import Derived.Lib.Strings
import Derived.Test.YtpdlhpamcaocgaaGreatDoorP01
set_option linter.all false
section
namespace Go.Abs
variable [cd]
section
variable {x : X} {f : Nat → Option bm} {C : CC} {defs : List (Option Nat)} {ρ : Src → aN} {ev : Operand → Value} {Γ : Ctx} {m : List (Nat × bm)} {L : Nat}
theorem uz {t : TypeId} {z : List D} (h : nF C.P t = some (.agg z)) : ∃ i cs, C.P.info? t = some i ∧ i.zero = some (.agg cs) ∧ RD C.ν x (.agg cs) (.agg z) := by
 unfold nF at h
 cases hi : C.P.info? t with
 | none => simp [hi] at h
 | some i =>
  cases hz : i.zero with
  | none => simp [hi, hz] at h
  | some v =>
   simp only [hi, hz, Option.bind_some] at h
   have hr : RD C.ν x v (.agg z) := iD v _ h
   cases v with
   | agg cs => exact ⟨i, cs, rfl, hz, hr⟩
   | _ => cases hr
theorem ng {t : TypeId} {z : D} (h : nF C.P t = some z) : ∃ i v, C.P.info? t = some i ∧ i.zero = some v ∧ RD C.ν x v z := by
 unfold nF at h
 cases hi : C.P.info? t with
 | none => simp [hi] at h
 | some i =>
  cases hz : i.zero with
  | none => simp [hi, hz] at h
  | some v =>
   simp only [hi, hz, Option.bind_some] at h
   exact ⟨i, v, rfl, hz, iD v _ h⟩
theorem qv {P : Program} (w : World) : ∀ (fs : List Field), (∀ f ∈ fs, (P.info? f.type).isSome = true) →
  (fs.mapM (fun f => (do pure (f.offset, ← sizeOf f.type) : Sem (Nat × Nat)))).run P w = .ok (fs.map fun f => (f.offset, P.cellsOf f.type)) w
 | [], _ => by simp
 | f :: r, h => by
  have hf := h f (by simp)
  cases hi : P.info? f.type with
  | none => simp [hi] at hf
  | some i =>
   have hr := qv w r (fun g hg => h g (by simp [hg]))
   simp only [List.mapM_cons, Sem.run_bind, run_sizeOf w hi, Result.andThen_ok, Sem.run_pure, hr]
   simp
theorem xw {op : BinOp} {d e : D} (h : iZ op d e) : (∃ k a k' b, d = .int k a ∧ e = .int k' b) ∨ (∃ a b, d = .str a ∧ e = .str b) := by
 cases d <;> cases e <;> first | exact .inl ⟨_, _, _, _, rfl, rfl⟩ | exact .inr ⟨_, _, rfl, rfl⟩ | (simp only [iZ] at h)
theorem oF {op : BinOp} {t u : TypeId} {p q : Operand} {o : Oper} {v : Value} {w : World} {P : Program} (ho : o.op = .binOp op t p q u) (hg : (eqGuard op t p q (ev p) (ev q)).run P w = .ok () w)
  (hr : (binOp op t (ev p) (ev q)).run P w = .ok v w) : (execOp ev o).run P w = .ok (.value v) w := by
 simp [execOp, ho, hg, hr]
theorem uF (op : BinOp) (hop : op = .eql ∨ op = .neq) (t : TypeId) (xs ys : Array Value) (b : Bool) (w : World) (P : Program) (h : (Op.equalIn 10000 t (.agg xs) (.agg ys)).run P w = .ok b w) :
  (binOp op t (.agg xs) (.agg ys)).run P w = .ok (.bool (if op = .neq then !b else b)) w := by
 rcases hop with rfl | rfl
 ·rw [run_eql_struct, h]; rfl
 ·rw [run_neq_struct, h]; rfl
theorem FK {a : Option Addr} {len cap k : Nat} {es : List D} {l h : Nat} (hv : RD C.ν x (.slice a len cap) (.sl k es)) (h1 : l ≤ h) (h2 : h ≤ es.length) :
  RD C.ν x (.slice (if cap = l then a else a.map (·.add (l * k))) (h - l) (cap - l)) (.sl k ((es.take h).drop l)) := by
 cases hv with
 | sl _ b off _ _ _ _ c hlen ha hcap hm hk hn hc hone hh =>
  have hl' : ((es.take h).drop l).length = h - l := by simp; omega
  have hg : ∀ i, i < h - l → ((es.take h).drop l).getD i .any = es.getD (l + i) .any := by
   intro i hi
   simp [List.getD, List.getElem?_drop, List.getElem?_take, show l + i < h by omega]
  refine .sl _ b (off + l * k) (h - l) (cap - l) k _ (fun i j => c (l + i) j) hl'.symm ?_ (by omega) (by omega) (fun i hi => ?_) (fun i hi => ?_) (fun i j hi hj => ?_) (fun i j hi hj => hone _ _ (by omega) hj) (fun i j hi hj => ?_)
  ·by_cases he : h - l = 0
   ·left; exact List.eq_nil_of_length_eq_zero (by omega)
   ·right
    rw [if_neg (by omega)]
    rcases ha with rfl | ⟨rfl, hI⟩
    ·simp at h2; omega
    ·exact ⟨by simp [Addr.qB], hI⟩
  ·rw [hg i hi]; exact hk _ (by omega)
  ·rw [hg i hi]; exact hn _ (by omega)
  ·have := hc (l + i) j (by omega) hj
   rw [← this]; congr 2; rw [Nat.add_mul]; omega
  ·rw [hg i hi]; exact hh _ _ (by omega) hj
theorem FJ {a : Option Addr} {len cap k : Nat} {es : List D} {h m : Nat} (hv : RD C.ν x (.slice a len cap) (.sl k es)) (h1 : h ≤ m) (h2 : m ≤ es.length) :
  RD C.ν x (.slice (if m = 0 then a else a.map (·.add (0 * k))) h m) (.sl k (es.take h)) := by
 cases hv with
 | sl _ b off _ _ _ _ c hlen ha hcap hm hk hn hc hone hh =>
  have hl' : (es.take h).length = h := by simp; omega
  have hg : ∀ i, i < h → (es.take h).getD i .any = es.getD i .any := by
   intro i hi
   simp [List.getD, List.getElem?_take, hi]
  refine .sl _ b off h m k _ (fun i j => c i j) hl'.symm ?_ h1 (by omega) (fun i hi => ?_) (fun i hi => ?_) (fun i j hi hj => hc i j (by omega) hj) (fun i j hi hj => hone _ _ (by omega) hj) (fun i j hi hj => ?_)
  ·by_cases he : h = 0
   ·left; exact List.eq_nil_of_length_eq_zero (by omega)
   ·right
    rw [if_neg (by omega)]
    rcases ha with rfl | ⟨rfl, hI⟩
    ·simp at h2; omega
    ·exact ⟨by simp [Addr.add], hI⟩
  ·rw [hg i hi]; exact hk _ (by omega)
  ·rw [hg i hi]; exact hn _ (by omega)
  ·rw [hg i hi]; exact hh _ _ (by omega) hj
theorem Dy {v : Value} {L' k i n : Nat} (hv : RD C.ν x v (.own L' k i n)) :
  ∃ a cap, v = .slice a n cap ∧ n ≤ cap ∧ ∀ h m, h ≤ m → m ≤ n → RD C.ν x (.slice (if m = 0 then a else a.map (·.add (0 * k))) h m) (.own L' k i h) := by
 cases hv with
 | own _ _ _ _ b base tot cap a hβ ha hcap hm ht =>
  refine ⟨some a, cap, rfl, hcap, fun h m h1 h2 => ?_⟩
  have e : (if m = 0 then some a else (some a).map (·.add (0 * k))) = some a := by simp [Addr.add]
  rw [e]
  exact .own L' k i h b base tot m a hβ (fun hp => ha (by omega)) h1 (by omega) (by omega)
 | own0 =>
  refine ⟨none, 0, rfl, Nat.le_refl _, fun h m h1 h2 => ?_⟩
  obtain rfl : m = 0 := by omega
  obtain rfl : h = 0 := by omega
  exact .own0 _ _ _
theorem nQ {vh vm : Value} {kh km : IntKind} {h m : Int} {len cap : Nat} (e1 : vh = .int kh h) (e2 : vm = .int km m) (h0 : 0 ≤ h) (h1 : h ≤ m) (h2 : m ≤ cap) :
  (Instr.sliceBounds true len cap none (some vh) (some vm)).run C.P x.w = .ok (0, h.toNat, m.toNat) x.w := by
 subst e1; subst e2
 simp [Instr.sliceBounds, run_sliceBound x.w km m cap .slice3Acap (by omega) h2, run_sliceBound x.w kh h m.toNat .slice3B h0 (by omega)]
theorem Dz {v : Value} {L' k i n : Nat} (hv : RD C.ν x v (.own L' k i n)) :
  ∃ a cap, v = .slice a n cap ∧ n ≤ cap ∧ ∀ l h, l ≤ h → h ≤ n → RD C.ν x (.slice (if cap = l then a else a.map (·.add (l * k))) (h - l) (cap - l)) (.own L' k (i + l) (h - l)) := by
 cases hv with
 | own _ _ _ _ b base tot cap a hβ ha hcap hm ht =>
  refine ⟨some a, cap, rfl, hcap, fun l h h1 h2 => ?_⟩
  have e : (if cap = l then some a else (some a).map (·.add (l * k))) = some (if cap = l then a else a.add (l * k)) := by split <;> rfl
  rw [e]
  refine .own L' k (i + l) (h - l) b base tot (cap - l) _ hβ (fun hp => ?_) (by omega) (by omega) (by omega)
  rw [if_neg (by omega), ha (by omega), Addr.qB]
  congr 1
  rw [Nat.add_mul]; omega
 | own0 =>
  refine ⟨none, 0, rfl, Nat.le_refl _, fun l h h1 h2 => ?_⟩
  obtain rfl : h = 0 := by omega
  obtain rfl : l = 0 := by omega
  exact .own0 _ _ _
theorem tj (s : List UInt8) (l h : Nat) : (⟨⟨s⟩⟩ : ByteArray).extract l h = ⟨⟨(s.take h).drop l⟩⟩ := by
 rw [Lib.extract_eq, List.drop_take]
theorem sg {lo : Option Operand} (h : C.opt defs lo = some none) : lo = none := by
 cases lo with
 | none => rfl
 | some o => simp [CC.opt] at h
theorem si {lo : Option Operand} {s : Src} (h : C.opt defs lo = some (some s)) : ∃ o, lo = some o ∧ C.src defs o = some s := by
 cases lo with
 | none => simp [CC.opt] at h
 | some o => simp only [CC.opt, Option.map_eq_some_iff, Option.some.injEq] at h; obtain ⟨a, h1, rfl⟩ := h; exact ⟨o, rfl, h1⟩
theorem kN {os' : List Operand} (hρ : qa C defs ρ ev x os') {lo hi : Option Operand} (hml : ∀ o, lo = some o → o ∈ os') (hmh : ∀ o, hi = some o → o ∈ os') {l h : Option Src} (hl : C.opt defs lo = some l) (hh : C.opt defs hi = some h) (k1 : Bp ρ l) (k2 : Bp ρ h) (A8 : Bool) (len cap : Nat)
  (hcap : A8 = false → len = cap) (hle : len ≤ cap) (b2 : lG (dO ρ h) len) (b1 : lG (dO ρ l) (cT (dO ρ h) len)) :
  (Instr.sliceBounds A8 len cap (lo.map ev) (hi.map ev) none).run C.P x.w = .ok (cT (dO ρ l) 0, cT (dO ρ h) len, cap) x.w ∧ cT (dO ρ l) 0 ≤ cT (dO ρ h) len ∧ cT (dO ρ h) len ≤ len := by
 have hh' : ∃ code, (match hi.map ev with | some v => Instr.sliceBound v cap code | none => pure len : Sem Nat).run C.P x.w = .ok (cT (dO ρ h) len) x.w ∧ cT (dO ρ h) len ≤ len ∧ code = (if A8 then BoundsCode.sliceAcap else .sliceAlen) := by
  cases h with
  | none =>
   obtain rfl := sg hh
   exact ⟨_, by simp [dO, cT], by simp [dO, cT], rfl⟩
  | some s =>
   obtain ⟨o, rfl, h1⟩ := si hh
   have hv := hρ o (hmh o rfl) s  h1 k2
   simp only [dO] at b2
   cases hd : (ρ s).d <;> simp only [hd, lG] at b2
   rename_i kk n
   rw [hd] at hv
   refine ⟨_, ?_, ?_, rfl⟩
   ·simp only [Option.map_some, dO, cT, hd]
    rw [hv.cx, run_sliceBound x.w kk n cap _ b2.1 (by omega)]
   ·simp only [dO, cT, hd]; omega
 obtain ⟨code, g1, g2, rfl⟩ := hh'
 generalize cT (dO ρ h) len = B at *
 have hl' : (match lo.map ev with | some v => Instr.sliceBound v B .sliceB | none => pure 0 : Sem Nat).run C.P x.w = .ok (cT (dO ρ l) 0) x.w ∧ cT (dO ρ l) 0 ≤ B := by
  cases l with
  | none =>
   obtain rfl := sg hl
   exact ⟨by simp [dO, cT], by simp [dO, cT]⟩
  | some s =>
   obtain ⟨o, rfl, h1⟩ := si hl
   have hv := hρ o (hml o rfl) s  h1 k1
   simp only [dO] at b1
   cases hd : (ρ s).d <;> simp only [hd, lG] at b1
   rename_i kk n
   rw [hd] at hv
   refine ⟨?_, ?_⟩
   ·simp only [Option.map_some, dO, cT, hd]
    rw [hv.cx, run_sliceBound x.w kk n _ _ b1.1 b1.2]
   ·simp only [dO, cT, hd]; omega
 obtain ⟨f1, f2⟩ := hl'
 refine ⟨?_, f2, g2⟩
 cases lo with
 | none =>
  simp only [Option.map_none, Sem.run_pure, Result.ok.injEq, and_true] at f1
  cases hi with
  | none =>
   simp only [Option.map_none, Sem.run_pure, Result.ok.injEq, and_true] at g1
   rw [← f1, ← g1]
   simp [Instr.sliceBounds]
  | some v =>
   simp only [Option.map_some] at g1
   rw [← f1]
   simp [Instr.sliceBounds, g1]
 | some u =>
  have f1' : (Instr.sliceBound (ev u) B .sliceB).run C.P x.w = .ok (cT (dO ρ l) 0) x.w := f1
  clear f1
  generalize cT (dO ρ l) 0 = A at *
  cases hi with
  | none =>
   simp only [Option.map_none, Sem.run_pure, Result.ok.injEq, and_true] at g1
   subst g1
   simp only [Instr.sliceBounds, Option.map_some, Option.map_none, Sem.run_bind, Sem.run_pure, Result.andThen_ok, Option.isSome_none, Bool.false_eq_true, if_false, f1']
  | some v =>
   have g1' : (Instr.sliceBound (ev v) cap (if A8 then BoundsCode.sliceAcap else .sliceAlen)).run C.P x.w = .ok B x.w := g1
   simp only [Instr.sliceBounds, Option.map_some, Option.map_none, Sem.run_bind, Sem.run_pure, Result.andThen_ok, Option.isSome_none, Bool.false_eq_true, if_false, g1', f1']
theorem uT {P : Program} {t : TypeId} {ks : List CK} {d : Nat} (ha : bp P t = false) (h1 : ∀ k, P.underlying t = some (.int k) → False) (h2 : P.underlying t = some .string → False) (h : dF P (d + 1) t = some ks) : P.underlying t = some .bool := by
 unfold bp at ha
 unfold dF at h
 cases hu : P.underlying t with
 | none => simp [hu] at h
 | some q => cases q <;> simp_all
theorem qF {P : Program} {t : TypeId} {d : Nat} (h : P.underlying t = some .bool) : dF P (d + 1) t = some [.b] := by
 unfold dF
 simp [h]
theorem Dv {o : Oper} {i : aA} (hc : C.op defs o = some i) (hp : i.pure = true) (hρ : qa C defs ρ ev x o.op.operands.toList) (hob : i.cV Γ ρ m) (hs : dm C.ν x f) :
  sV C.ν x f L (i.val Γ ρ m L) ((execOp ev o).run C.P x.w) := by
 cases ho : o.op with
 | move p =>
  simp only [CC.op, ho, Option.map_eq_some_iff] at hc
  obtain ⟨s, h1, rfl⟩ := hc
  exact aU hs (by simp [execOp, ho]) (hρ p (by simp [ho, Op.operands, Call.operands]) s h1 hob)
 | assign p =>
  simp only [CC.op, ho, Option.map_eq_some_iff] at hc
  obtain ⟨s, h1, rfl⟩ := hc
  exact aU hs (by simp [execOp, ho]) (hρ p (by simp [ho, Op.operands, Call.operands]) s h1 hob)
 | pick c a b =>
  simp only [CC.op, ho] at hc
  split at hc
  ·rename_i c' a' b' h1 h2 h3
   simp only [Option.some.injEq] at hc
   subst hc
   obtain ⟨k1, k2⟩ := hob
   have hcv := hρ c (by simp [ho, Op.operands, Call.operands]) c' h1 k1
   cases hd : (ρ c').d <;> simp only [hd] at k2
   rename_i t
   rw [hd] at hcv
   simp only [aA.val, hd]
   refine aU hs ?_ (RD.pick (fun ht => hρ a (by simp [ho, Op.operands, Call.operands]) a' h2 (k2.1 ht)) (fun ht => hρ b (by simp [ho, Op.operands, Call.operands]) b' h3 (k2.2 ht)))
   simp [execOp, ho, hcv.eS, asBool]
  ·cases hc
 | build t ps =>
  simp only [CC.op, ho] at hc
  split at hc
  ·rename_i z fs hz hu
   split at hc
   rotate_left
   ·cases hc
   rename_i hplaces
   simp only [Option.map_eq_some_iff] at hc
   obtain ⟨ss, h1, rfl⟩ := hc
   obtain ⟨ti, cs, hi, hzv, hr⟩ := uz (x := x) hz
   have hsz : cs.size = z.length := by cases hr with | agg _ _ hl _ _ => exact hl
   obtain ⟨cs', g1, g2⟩ := mi hρ _ z.length ps.toList ss (fun p hp => by simp only [ho, Op.operands, List.mem_map]; exact ⟨p, hp, rfl⟩) h1 hob cs z hsz hr
   refine aU hs ?_ g2
   have hpl := qv (P := C.P) x.w fs.toList (fun f hf => (List.all_eq_true.1 hplaces) f hf)
   have hpl' : (fs.mapM (fun f : Field => (do pure (f.offset, ← sizeOf f.type) : Sem (Nat × Nat)))).run C.P x.w = .ok (fs.map fun f : Field => (f.offset, C.P.cellsOf f.type)) x.w := by
    rw [Array.mapM_eq_mapM_toList, Sem.run_map, hpl]
    simp [Result.andThen, List.map_toArray]
    apply Array.ext'; simp
   have hg : Instr.fill (fun i : Nat => (fs.map fun f : Field => (f.offset, C.P.cellsOf f.type))[i]?) cs (ps.map fun (i, o) => (i, ev o)).toList = some cs' := by
    have e : (fun i : Nat => (fs.map fun f : Field => (f.offset, C.P.cellsOf f.type))[i]?) = (fun i => (fs[i]?).map fun f : Field => (f.offset, C.P.cellsOf f.type)) := by
     funext q; simp
    rw [e, Array.toList_map]
    exact g1
   simp only [execOp, ho, Instr.build, Sem.run_bind, zeroValue, run_typeInfo x.w hi, Result.andThen_ok, hzv, Sem.run_pure, run_underlying hu, hpl', Value.cells, hg]
  ·rename_i z n e hz hu
   split at hc
   ·cases hc
   rename_i hce
   simp only [Option.map_eq_some_iff] at hc
   obtain ⟨ss, h1, rfl⟩ := hc
   obtain ⟨ti, cs, hi, hzv, hr⟩ := uz (x := x) hz
   have hsz : cs.size = z.length := by cases hr with | agg _ _ hl _ _ => exact hl
   obtain ⟨cs', g1, g2⟩ := mi hρ _ z.length ps.toList ss (fun p hp => by simp only [ho, Op.operands, List.mem_map]; exact ⟨p, hp, rfl⟩) h1 hob cs z hsz hr
   refine aU hs ?_ g2
   have hg : Instr.fill (fun i => some (i * C.P.cellsOf e, C.P.cellsOf e)) cs (ps.map fun (i, o) => (i, ev o)).toList = some cs' := by
    rw [Array.toList_map]
    exact g1
   simp only [execOp, ho, Instr.build, Sem.run_bind, zeroValue, run_typeInfo x.w hi, Result.andThen_ok, hzv, Sem.run_pure, run_underlying hu, cr hce, Value.cells, hg]
  ·cases hc
 | nilCheck p =>
  simp only [CC.op, ho, Option.map_eq_some_iff] at hc
  obtain ⟨s, h1, rfl⟩ := hc
  obtain ⟨k1, k2⟩ := hob
  have hv := hρ p (by simp [ho, Op.operands, Call.operands]) s h1 k1
  refine aU hs ?_ hv
  cases hd : (ρ s).d <;> simp only [hd] at k2 <;> rw [hd] at hv <;> generalize he : ev p = vp at hv <;> cases hv <;> simp [execOp, ho, he]
 | binOp op t p q u =>
  simp only [CC.op, ho] at hc
  split at hc
  ·rename_i a b h1 h2
   have hbin : ∀ (i' : aA), i' = .bin op a b → i'.cV Γ ρ m → sV C.ν x f L (i'.val Γ ρ m L) ((execOp ev o).run C.P x.w) := by
    rintro _ rfl ⟨k1, k2, k3⟩
    have hv := hρ p (by simp [ho, Op.operands, Call.operands]) a h1 k1
    have hw := hρ q (by simp [ho, Op.operands, Call.operands]) b h2 k2
    rcases xw k3 with ⟨kk, n, kk', n', e1, e2⟩ | ⟨s, s', e1, e2⟩
    ·rw [e1] at hv k3
     rw [e2] at hw k3
     obtain ⟨v, r1, r2⟩ := wQ (ν := C.ν) (x := x) (P := C.P) (t := t) x.w k3
     refine aU hs (oF ho (lZ _ _ _ _ (by rw [hv.cx]; exact ⟨by simp, by simp⟩) _) (by rw [hv.cx, hw.cx]; exact r1)) ?_
     simp only [aA.val, e1, e2]
     exact r2
    ·rw [e1] at hv k3
     rw [e2] at hw k3
     obtain ⟨v, r1, r2⟩ := wR (ν := C.ν) (x := x) (P := C.P) (t := t) x.w k3
     refine aU hs (oF ho (lZ _ _ _ _ (by rw [hv.fj.1]; exact ⟨by simp, by simp⟩) _) (by rw [hv.fj.1, hw.fj.1]; exact r1)) ?_
     simp only [aA.val, e1, e2]
     exact r2
   split at hc
   ·simp only [Option.some.injEq] at hc
    exact hc ▸ hbin _ rfl (hc ▸ hob)
   ·simp only [Option.some.injEq] at hc
    exact hc ▸ hbin _ rfl (hc ▸ hob)
   ·rename_i hu1 hu2
    split at hc
    ·cases hc
    ·rename_i hge
     have hge' : C.P.eqGuardType C.P.depth t = false := by simpa using hge
     have heq : ∀ (neg : Bool) (ks : List CK), dF C.P 30 t = some ks → op = (if neg then .neq else .eql) → i = .eqA neg (bp C.P t) ks a b → sV C.ν x f L (i.val Γ ρ m L) ((execOp ev o).run C.P x.w) := by
      rintro neg ks hks hop rfl
      obtain ⟨k1, k2, a1, a2, f1, f2⟩ := hob
      have hv := hρ p (by simp [ho, Op.operands, Call.operands]) a h1 k1
      have hw := hρ q (by simp [ho, Op.operands, Call.operands]) b h2 k2
      have hrun := ma (ν := C.ν) (x := x) (P := C.P) 30 t ks hks 10000 (by omega) (ev p) (ev q) _ _ x.w hv hw a1 a2 f1 f2
      cases hag : bp C.P t
      ·rw [hag] at a1 a2

       have hub : C.P.underlying t = some .bool := uT (d := 29) hag hu1 hu2 hks
       rw [qF (d := 29) hub, Option.some.injEq] at hks
       subst hks
       have g1 := hO f1 a1
       have g2 := hO f2 a2
       cases e1 : (ρ a).d <;> simp only [e1, CK.fits] at g1
       cases e2 : (ρ b).d <;> simp only [e2, CK.fits] at g2
       rename_i b1 b2
       rw [e1] at hv
       rw [e2] at hw
       refine aU hs (v := .bool (if neg then !(b1 == b2) else b1 == b2)) (oF ho (lZ _ _ _ _ (by rw [hv.eS]; exact ⟨by simp, by simp⟩) _) ?_) ?_
       ·rw [hv.eS, hw.eS, hop]
        cases neg
        ·simpa using run_eql_bool x.w t b1 b2 hub
        ·simpa using run_neq_bool x.w t b1 b2 hub
       ·simp only [aA.val, e1, e2, D.cells, et, Fc, Bool.and_true]
        cases neg <;> exact .bool _
      ·rw [hag] at a1 a2
       cases e1 : (ρ a).d <;> simp only [e1, D.isAgg, Bool.false_eq_true] at a1
       cases e2 : (ρ b).d <;> simp only [e2, D.isAgg, Bool.false_eq_true] at a2
       rw [e1] at hv
       rw [e2] at hw
       rw [e1, e2] at hrun
       generalize hep : ev p = vp at *
       generalize heq' : ev q = vq at *
       cases hv with
       | agg xs _ p1 p2 p3 =>
        cases hw with
        | agg ys _ q1 q2 q3 =>
         refine aU hs (oF (v := .bool (if op = .neq then !(et (D.agg _).cells (D.agg _).cells) else et (D.agg _).cells (D.agg _).cells)) ho (by rw [hep, heq']; exact run_eqGuard_agg x.w _ _ _ _ _ _ hge') (by rw [hep, heq']; exact uF op (by cases neg <;> simp [hop]) t xs ys _ x.w C.P hrun)) ?_
         simp only [aA.val, e1, e2]
         cases neg <;> simp only [hop, if_true, if_false, Bool.false_eq_true, cond_true, cond_false, reduceCtorEq] <;> exact .bool _
     split at hc
     ·rename_i ks hks
      simp only [Option.some.injEq] at hc
      exact heq false ks hks rfl hc.symm
     ·rename_i ks hks
      simp only [Option.some.injEq] at hc
      exact heq true ks hks rfl hc.symm
     ·cases hc
  ·cases hc
 | unOp op t p =>
  simp only [CC.op, ho, Option.map_eq_some_iff] at hc
  obtain ⟨s, h1, rfl⟩ := hc
  obtain ⟨k1, k2⟩ := hob
  have hv := hρ p (by simp [ho, Op.operands, Call.operands]) s h1 k1
  cases op <;> cases hd : (ρ s).d <;> simp only [hd] at k2 <;> rw [hd] at hv <;> simp only [aA.val, hd]
  ·exact aU hs (by simp [execOp, ho, hv.cx, Op.unary, Op.intArith]) (.int _ _)
  ·exact aU hs (by simp [execOp, ho, hv.eS, Op.unary]) (.bool _)
 | convert s d p =>
  simp only [CC.op, ho] at hc
  split at hc
  ·rename_i ks k a hu1 hu2 h1
   simp only [Option.some.injEq] at hc
   subst hc
   obtain ⟨k1, k2⟩ := hob
   have hv := hρ p (by simp [ho, Op.operands, Call.operands]) a h1 k1
   cases hd : (ρ a).d <;> simp only [hd] at k2
   rw [hd] at hv
   simp only [aA.val, hd]
   exact aU hs (by simp [execOp, ho, hv.cx, convert, run_underlying hu1, run_underlying hu2, Conv.intToInt]) (.int _ _)
  ·rename_i ks a hu1 hu2 h1
   simp only [Option.some.injEq] at hc
   subst hc
   obtain ⟨k1, k2⟩ := hob
   have hv := hρ p (by simp [ho, Op.operands, Call.operands]) a h1 k1
   cases hd : (ρ a).d <;> simp only [hd] at k2
   rename_i n
   rw [hd] at hv
   simp only [aA.val, hd]
   refine aU hs (v := .string (Utf8.encode n)) (by simp [execOp, ho, hv.cx, convert, run_underlying hu1, run_underlying hu2, Conv.intToString]) ?_
   have h4 := encode_size_le n
   have e : Utf8.encode n = ⟨⟨B0 n⟩⟩ := rfl
   rw [e]
   refine .str _ ?_
   have : (B0 n).length = (Utf8.encode n).size := rfl
   simp only [maxLen]; omega
  ·split at hc
   ·simp only [Option.some.injEq] at hc; subst hc; simp [aA.pure] at hp
   ·cases hc
  ·split at hc
   ·simp only [Option.some.injEq] at hc; subst hc; simp [aA.pure] at hp
   ·cases hc
  ·cases hc
 | makeFunc fn first caps =>
  cases fn with
  | func fid =>
   simp only [CC.op, ho] at hc
   split at hc
   ·rename_i n l h1 h2
    split at hc
    ·rename_i hfe
     simp only [Option.some.injEq] at hc
     subst hc
     obtain ⟨e1, e2, e3⟩ := dY hρ caps.toList l (fun o' ho' => by simp only [ho, Op.operands, Array.toList_append, List.mem_append]; exact .inr ho') h2 hob
     have hf0 : first = #[] := by simpa using hfe
     refine aU hs (v := .func (.func fid) #[] (caps.map ev)) (by simp [execOp, ho, Instr.makeFunc, hf0]) ?_
     refine .fn fid n _ _ h1 (by simp [e2]) (fun i hi => ?_)
     have := e3 i hi
     rw [← bn, Array.toList_map]
     exact this
    ·split at hc
     ·rename_i hle
      simp only [Option.map_eq_some_iff] at hc
      obtain ⟨l1, hl1, rfl⟩ := hc
      obtain ⟨e1, e2, e3⟩ := dY hρ first.toList l1 (fun o' ho' => by simp only [ho, Op.operands, Array.toList_append, List.mem_append]; exact .inl ho') hl1 hob
      obtain ⟨_, q2, _⟩ := dY hρ caps.toList l (fun o' ho' => by simp only [ho, Op.operands, Array.toList_append, List.mem_append]; exact .inr ho') h2 (by rw [List.isEmpty_iff.1 hle]; trivial)
      have hf0 : caps = #[] := by
       rw [List.isEmpty_iff.1 hle] at q2
       exact Array.eq_empty_of_size_eq_zero (by simpa [eB] using q2.symm)
      refine aU hs (v := .func (.func fid) (first.map ev) #[]) (by simp [execOp, ho, Instr.makeFunc, hf0]) ?_
      refine .cT fid n _ _ h1 (by simp [e2]) (fun i hi => ?_)
      have := e3 i hi
      rw [← bn, Array.toList_map]
      exact this
     ·cases hc
   ·cases hc
  | _ => simp [CC.op, ho] at hc
 | slice t p lo hi mx =>
  simp only [CC.op, ho] at hc
  split at hc
  ·rename_i a l h hu h1 hl hh
   simp only [Option.some.injEq] at hc
   subst hc
   obtain ⟨k1, k2, k3, k4⟩ := hob
   have hv := hρ p (by simp [ho, Op.operands, Call.operands]) a h1 k1
   cases hd : (ρ a).d <;> simp only [hd] at k4
   rename_i s
   rw [hd] at hv
   obtain ⟨e1, e2⟩ := hv.fj
   obtain ⟨b1, b2, b3⟩ := kN hρ (by rintro _ rfl; simp [ho, Op.operands]) (by rintro _ rfl; simp [ho, Op.operands]) hl hh k2 k3 false s.length s.length (fun _ => rfl) (Nat.le_refl _) k4.1 k4.2
   simp only [aA.val, hd]
   have hsz : (⟨⟨s⟩⟩ : ByteArray).size = s.length := rfl
   refine aU hs (v := .string ⟨⟨(s.take (cT (dO ρ h) s.length)).drop (cT (dO ρ l) 0)⟩⟩) ?_ (.str _ (by simp; omega))
   simp [execOp, ho, e1, Instr.sliceAt, Instr.slice, run_underlying hu, hsz, b1, tj]
  ·rename_i e a l h hu h1 hl hh
   split at hc
   ·cases hc
   rename_i hce
   simp only [Option.some.injEq] at hc
   subst hc
   obtain ⟨k1, k2, k3, k4⟩ := hob
   have hv := hρ p (by simp [ho, Op.operands, Call.operands]) a h1 k1
   cases hd : (ρ a).d <;> simp only [hd] at k4
   ·
    rw [hd] at hv
    obtain ⟨b1, b2, b3⟩ := kN hρ (by rintro _ rfl; simp [ho, Op.operands]) (by rintro _ rfl; simp [ho, Op.operands]) hl hh k2 k3 true 0 0 (fun e => by simp at e) (Nat.le_refl _) k4.1 (by
     have : cT (dO ρ h) 0 = 0 := by
      have := k4.1
      cases hdh : dO ρ h with
      | none => rfl
      | some d => rw [hdh] at this; cases d <;> simp_all [lG, cT]
     rw [this]; exact k4.2)
    simp only [aA.val, hd]
    have e0 : ev p = .slice none 0 0 := by generalize ev p = vp at hv; cases hv; rfl
    refine aU hs (v := .slice none 0 0) ?_ .av
    have z1 : cT (dO ρ l) 0 = 0 := by omega
    have z2 : cT (dO ρ h) 0 = 0 := by omega
    rw [z1, z2] at b1
    simp [execOp, ho, e0, Instr.sliceAt, Instr.slice, run_underlying hu, b1, cr hce]
   ·rename_i k es
    rw [hd] at hv
    simp only [aA.val, hd]
    generalize hep : ev p = vp at hv
    have hv2 := hv
    cases hv with
    | sl aa b off len cap _ _ c hlen ha hcap hm hk hn hc' hone hh' =>
     subst hlen
     obtain ⟨b1, b2, b3⟩ := kN hρ (by rintro _ rfl; simp [ho, Op.operands]) (by rintro _ rfl; simp [ho, Op.operands]) hl hh k2 k3 true es.length cap (fun e => by simp at e) hcap k4.2.1 k4.2.2
     refine aU hs (v := .slice (if cap = cT (dO ρ l) 0 then aa else aa.map (·.add (cT (dO ρ l) 0 * C.P.cellsOf e))) (cT (dO ρ h) es.length - cT (dO ρ l) 0) (cap - cT (dO ρ l) 0)) ?_ ?_
     ·simp [execOp, ho, hep, Instr.sliceAt, Instr.slice, run_underlying hu, b1, cr hce]
     ·rw [← k4.1]
      exact FK hv2 b2 b3
   ·rename_i L' k i n
    rw [hd] at hv
    simp only [aA.val, hd]
    obtain ⟨k5, k6, k7⟩ := k4
    obtain ⟨aa, cap, he, hle0, hr⟩ := Dz hv
    obtain ⟨b1, b2, b3⟩ := kN hρ (by rintro _ rfl; simp [ho, Op.operands]) (by rintro _ rfl; simp [ho, Op.operands]) hl hh k2 k3 true n cap (fun e => by simp at e) hle0 k6 k7
    refine aU hs ?_ (hr _ _ b2 b3)
    simp only [execOp, ho, he, Instr.sliceAt, Instr.slice, run_underlying hu, Sem.run_bind, Result.andThen_ok, Option.map_none, b1, cr hce, Sem.run_pure, k5]
  ·rename_i e a h mo hu h1 hl hh
   obtain rfl := sg hl
   obtain ⟨oh, rfl, hh1⟩ := si hh
   split at hc
   rotate_left
   ·cases hc
   rename_i ms hms
   split at hc
   ·cases hc
   rename_i hce
   simp only [Option.some.injEq] at hc
   subst hc
   obtain ⟨k1, k2, k3, k4⟩ := hob
   have hv := hρ p (by simp [ho, Op.operands, Call.operands]) a h1 k1
   have hvh := hρ oh (by simp [ho, Op.operands]) h hh1 k2
   have hvm := hρ mo (by simp [ho, Op.operands]) ms hms k3
   cases hdh : (ρ h).d <;> simp only [hdh] at k4
   cases hdm : (ρ ms).d <;> simp only [hdm] at k4
   rename_i kh nh km nm
   rw [hdh] at hvh
   rw [hdm] at hvm
   obtain ⟨p1, p2, p3⟩ := k4
   cases hd : (ρ a).d <;> simp only [hd] at p3
   ·
    rw [hd] at hv
    simp only [aA.val, hd, hdh]
    have e0 : ev p = .slice none 0 0 := by generalize ev p = vp at hv; cases hv; rfl
    have b1 := nQ (C := C) (x := x) (len := 0) (cap := 0) hvh.cx hvm.cx p1 p2 (by omega)
    refine aU hs (v := .slice none 0 0) ?_ .av
    have z1 : nh.toNat = 0 := by omega
    have z2 : nm.toNat = 0 := by omega
    rw [z1, z2] at b1
    simp [execOp, ho, e0, Instr.sliceAt, Instr.slice, run_underlying hu, b1, cr hce]
   ·rename_i k es
    rw [hd] at hv
    simp only [aA.val, hd, hdh]
    generalize hep : ev p = vp at hv
    have hv2 := hv
    cases hv with
    | sl aa b off len cap _ _ c hlen ha hcap hm hk hn hc' hone hh' =>
     subst hlen
     have b1 := nQ (C := C) (x := x) (len := es.length) (cap := cap) hvh.cx hvm.cx p1 p2 (by omega)
     refine aU hs (v := .slice (if nm.toNat = 0 then aa else aa.map (·.add (0 * C.P.cellsOf e))) nh.toNat nm.toNat) ?_ ?_
     ·simp [execOp, ho, hep, Instr.sliceAt, Instr.slice, run_underlying hu, b1, cr hce]
     ·rw [← p3.1]
      exact FJ hv2 (by omega) (by omega)
   ·rename_i L' k i n
    rw [hd] at hv
    simp only [aA.val, hd, hdh]
    obtain ⟨k5, k6⟩ := p3
    obtain ⟨aa, cap, he, hle0, hr⟩ := Dy hv
    have b1 := nQ (C := C) (x := x) (len := n) (cap := cap) hvh.cx hvm.cx p1 p2 (by omega)
    refine aU hs ?_ (hr nh.toNat nm.toNat (by omega) (by omega))
    simp only [execOp, ho, he, Instr.sliceAt, Instr.slice, run_underlying hu, Sem.run_bind, Result.andThen_ok, Option.map_none, Option.map_some, b1, cr hce, Sem.run_pure, k5, Nat.sub_zero]
  ·cases hc
 | fieldAddr t p fi =>
  simp only [CC.op, ho] at hc
  split at hc
  ·rename_i fs a hu h1
   split at hc
   ·rename_i fl hfl
    split at hc
    ·cases hc
    rename_i hce
    simp only [Option.some.injEq] at hc
    subst hc
    obtain ⟨k1, k2⟩ := hob
    have hv := hρ p (by simp [ho, Op.operands, Call.operands]) a h1 k1
    have hrun : ∀ (b c : Nat), ev p = .pointer (some ⟨b, c, none⟩) → (execOp ev o).run C.P x.w = .ok (.value (.pointer (some ⟨b, c + fl.offset, none⟩))) x.w := by
     intro b c he
     simp [execOp, ho, he, Instr.fieldAt, run_underlying hu, hfl, Instr.sureAddr, fieldPlace, cr hce, hce, Addr.qB]
    cases hd : (ρ a).d <;> simp only [hd] at k2
    ·rename_i k es i o'
     rw [hd] at hv
     simp only [aA.val, hd]
     generalize hep : ev p = vp at hv
     cases hv with
     | ref b off _ _ _ at_ _ c hI hat hk hn hc' h1' hh' =>
      exact aU hs (hrun _ _ hep) (.ref b off k i (o' + fl.offset) _ es c hI (by omega) hk hn hc' h1' hh')
    ·rename_i l k i o'
     rw [hd] at hv
     simp only [aA.val, hd]
     generalize hep : ev p = vp at hv
     cases hv with
     | ptr _ _ _ _ b base tot at_ hβ hat =>
      exact aU hs (hrun _ _ hep) (.ptr l k i (o' + fl.offset) b base tot _ hβ (by omega))
   ·cases hc
  ·cases hc
 | field t p fi =>
  simp only [CC.op, ho] at hc
  split at hc
  ·rename_i fs a hu h1
   split at hc
   ·rename_i fl hfl
    split at hc
    ·cases hc
    rename_i hce
    simp only [Option.some.injEq] at hc
    subst hc
    obtain ⟨k1, k2⟩ := hob
    have hv := hρ p (by simp [ho, Op.operands, Call.operands]) a h1 k1
    cases hd : (ρ a).d <;> simp only [hd] at k2
    rename_i ds
    rw [hd] at hv
    generalize hep : ev p = vp at hv
    have hv2 := hv
    cases hv with
    | agg cs _ _ _ _ =>
     obtain ⟨v, r1, r2⟩ := kE (P := C.P) (t := fl.type) (off := fl.offset) (n := C.P.cellsOf fl.type) (ag := bp C.P fl.type) x.w hv2 (fun e => hce (.inl e)) (by cases hn : (C.P.underlying fl.type).isNone with | false => rfl | true => exact absurd (.inr hn) hce) rfl rfl k2.1 k2.2
     refine aU hs (v := v) ?_ (by simp only [aA.val, hd, D.cells]; exact r2)
     simp [execOp, ho, hep, Instr.field, run_underlying hu, hfl, asAgg, r1]
   ·cases hc
  ·cases hc
 | indexAddr t p q =>
  simp only [CC.op, ho] at hc
  split at hc
  ·rename_i e a b hu h1 h2
   split at hc
   ·cases hc
   rename_i hce
   simp only [Option.some.injEq] at hc
   subst hc
   obtain ⟨k1, k2, k3⟩ := hob
   have hv := hρ p (by simp [ho, Op.operands, Call.operands]) a h1 k1
   have hw := hρ q (by simp [ho, Op.operands, Call.operands]) b h2 k2
   cases hd2 : (ρ b).d <;> cases hd : (ρ a).d <;> simp only [hd, hd2] at k3
   ·rename_i kk n k es
    rw [hd] at hv
    rw [hd2] at hw
    obtain ⟨k4, k5, k6⟩ := k3
    simp only [aA.val, hd, hd2]
    generalize hep : ev p = vp at hv
    cases hv with
    | sl aa b' off len cap _ _ c hlen ha hcap hm hk hn hc' hone hh' =>
     rcases ha with rfl | ⟨rfl, hI⟩
     ·simp at k6; omega
     ·refine aU hs (v := .pointer (some ⟨b', off + n.toNat * C.P.cellsOf e, none⟩)) ?_ ?_
      ·simp [execOp, ho, hep, hw.cx, Instr.indexAt, asIntOf, run_underlying hu, hlen, k5, k6, cr hce, Addr.qB]
      ·subst hlen
       exact .ref b' off k n.toNat 0 _ es c hI (by rw [k4]; omega) hk hn hc' hone hh'
   ·rename_i kk n L' k i len
    rw [hd] at hv
    rw [hd2] at hw
    obtain ⟨k4, k5, k6⟩ := k3
    simp only [aA.val, hd, hd2]
    generalize hep : ev p = vp at hv
    cases hv with
    | own _ _ _ _ b' base tot cap aa hβ ha hcap hm ht =>
     have ha' := ha (by omega)
     subst ha'
     refine aU hs (v := .pointer (some ⟨b', base + i * k + n.toNat * C.P.cellsOf e, none⟩)) ?_ ?_
     ·simp [execOp, ho, hep, hw.cx, Instr.indexAt, asIntOf, run_underlying hu, k5, k6, cr hce, Addr.qB]
     ·exact .ptr L' k (i + n.toNat) 0 b' base tot _ hβ (by rw [Nat.add_mul, k4]; omega)
    | own0 => omega
  ·rename_i len e a b hu h1 h2
   split at hc
   ·cases hc
   rename_i hce
   simp only [Option.some.injEq] at hc
   subst hc
   obtain ⟨k1, k2, k3⟩ := hob
   have hv := hρ p (by simp [ho, Op.operands, Call.operands]) a h1 k1
   have hw := hρ q (by simp [ho, Op.operands, Call.operands]) b h2 k2
   have hrun : ∀ (b c : Nat) (kk : IntKind) (n : Int), ev p = .pointer (some ⟨b, c, none⟩) → ev q = .int kk n → 0 ≤ n → n < len → (execOp ev o).run C.P x.w = .ok (.value (.pointer (some ⟨b, c + n.toNat * C.P.cellsOf e, none⟩))) x.w := by
    intro b c kk n he he' g1 g2
    simp [execOp, ho, he, he', Instr.indexAt, asIntOf, run_underlying hu, Instr.sureAddr, g1, g2, cr hce, Addr.qB]
   cases hd2 : (ρ b).d <;> cases hd : (ρ a).d <;> simp only [hd, hd2] at k3
   ·rename_i kk n k es i o'
    rw [hd] at hv
    rw [hd2] at hw
    simp only [aA.val, hd, hd2]
    generalize hep : ev p = vp at hv
    cases hv with
    | ref b' off _ _ _ at_ _ c hI hat hk hn hc' h1' hh' =>
     exact aU hs (hrun _ _ _ _ hep hw.cx k3.1 k3.2) (.ref b' off k i (o' + n.toNat * C.P.cellsOf e) _ es c hI (by omega) hk hn hc' h1' hh')
   ·rename_i kk n L' k i o'
    rw [hd] at hv
    rw [hd2] at hw
    simp only [aA.val, hd, hd2]
    generalize hep : ev p = vp at hv
    cases hv with
    | ptr _ _ _ _ b' base tot at_ hβ hat =>
     exact aU hs (hrun _ _ _ _ hep hw.cx k3.1 k3.2) (.ptr L' k i (o' + n.toNat * C.P.cellsOf e) b' base tot _ hβ (by omega))
  ·cases hc
 | index t p q =>
  simp only [CC.op, ho] at hc
  split at hc
  ·rename_i a b hu h1 h2
   simp only [Option.some.injEq] at hc
   subst hc
   obtain ⟨k1, k2, k3⟩ := hob
   have hv := hρ p (by simp [ho, Op.operands, Call.operands]) a h1 k1
   have hw := hρ q (by simp [ho, Op.operands, Call.operands]) b h2 k2
   cases hd2 : (ρ b).d <;> cases hd : (ρ a).d <;> simp only [hd, hd2] at k3
   rename_i kk n s
   rw [hd] at hv
   rw [hd2] at hw
   obtain ⟨e1, e2⟩ := hv.fj
   simp only [aA.val, hd, hd2]
   have hsz : (⟨⟨s⟩⟩ : ByteArray).size = s.length := rfl
   have hlt : n.toNat < s.length := by omega
   refine aU hs (v := .int .u8 (s.getD n.toNat 0).toNat) ?_ (.int _ _)
   simp only [execOp, ho, e1, hw.cx, Sem.run_bind, run_index_string x.w t _ kk n hu, hsz]
   rw [dif_pos k3]
   simp only [Result.andThen_ok, Sem.run_pure]
   congr 4
   show (((⟨s⟩ : Array UInt8)[n.toNat]'hlt)).toNat = _
   simp [List.getD, hlt]
  ·rename_i len e a b hu h1 h2
   split at hc
   ·cases hc
   rename_i hce
   simp only [Option.some.injEq] at hc
   subst hc
   obtain ⟨k1, k2, k0, k3⟩ := hob
   have hv := hρ p (by simp [ho, Op.operands, Call.operands]) a h1 k1
   have hw := hρ q (by simp [ho, Op.operands, Call.operands]) b h2 k2
   cases hd2 : (ρ b).d <;> cases hd : (ρ a).d <;> simp only [hd, hd2] at k3
   rename_i kk n ds
   rw [hd] at hv
   rw [hd2] at hw
   generalize hep : ev p = vp at hv
   have hv2 := hv
   cases hv with
   | agg cs _ _ _ _ =>
    have hb : n.toNat * C.P.cellsOf e + C.P.cellsOf e ≤ ds.length := by
     rw [k3.2.2, ← Nat.succ_mul]
     exact Nat.mul_le_mul_right _ (by omega)
    obtain ⟨v, r1, r2⟩ := kE (P := C.P) (t := e) (off := n.toNat * C.P.cellsOf e) (n := C.P.cellsOf e) (ag := bp C.P e) x.w hv2 (fun e => hce (.inl e)) (by cases hn : (C.P.underlying e).isNone with | false => rfl | true => exact absurd (.inr hn) hce) rfl rfl hb k0
    refine aU hs (v := v) ?_ (by simp only [aA.val, hd, hd2, D.cells]; exact r2)
    simp [execOp, ho, hep, hw.cx, Instr.index, asIntOf, run_underlying hu, k3.1, k3.2.1, cr (fun e => hce (.inl e)), r1]
  ·cases hc
 | extract p n =>
  simp only [CC.op, ho, Option.map_eq_some_iff] at hc
  obtain ⟨s, h1, rfl⟩ := hc
  obtain ⟨k1, k2⟩ := hob
  have hv := hρ p (by simp [ho, Op.operands, Call.operands]) s h1 k1
  cases hd : (ρ s).d <;> simp only [hd] at k2
  rw [hd] at hv
  generalize hep : ev p = vp at hv
  cases hv with
  | tup cs _ hl hh =>
   have hlt : n < cs.size := by omega
   refine aU hs (v := cs.getD n undef) ?_ (by simp only [aA.val, hd]; exact hh n k2)
   simp [execOp, ho, hep, Instr.extract, Array.getElem?_eq_getElem hlt, Array.getD, hlt]
 | call c =>
  obtain ⟨callee, args, argTypes⟩ := c
  cases callee with
  | builtin bu =>
   cases bu with
   | len =>
    simp only [CC.op, ho] at hc
    split at hc
    ·rename_i p t hargs htys
     have hargs' : args = #[p] := by apply Array.ext'; simpa using hargs
     have htys' : argTypes = #[t] := by apply Array.ext'; simpa using htys
     subst hargs'; subst htys'
     split at hc
     ·rename_i a h1 hu
      simp only [Option.some.injEq] at hc
      subst hc
      obtain ⟨k1, k2⟩ := hob
      have hv := hρ p (by simp [ho, Op.operands, Call.operands]) a h1 k1
      have hrun : ∀ s, ev p = .string s → (execOp ev o).run C.P x.w = .ok (.value (.int .i64 s.size)) x.w := by
       intro s he
       simp [execOp, ho, resolve, invoke, builtin, Builtin.len_, he, run_underlying hu, goInt]
      cases hd : (ρ a).d <;> simp only [hd] at k2
      ·rw [hd] at hv
       simp only [aA.val, hd]
       exact aU hs (hrun _ hv.fj.1) (.int _ _)
     ·rename_i a e h1 hu
      simp only [Option.some.injEq] at hc
      subst hc
      obtain ⟨k1, k2⟩ := hob
      have hv := hρ p (by simp [ho, Op.operands, Call.operands]) a h1 k1
      have hrun : ∀ b n cc, ev p = .slice b n cc → (execOp ev o).run C.P x.w = .ok (.value (.int .i64 n)) x.w := by
       intro b n cc he
       simp [execOp, ho, resolve, invoke, builtin, Builtin.len_, he, run_underlying hu, goInt]
      cases hd : (ρ a).d <;> simp only [hd] at k2
      ·rw [hd] at hv
       simp only [aA.val, hd]
       generalize hep : ev p = vp at hv
       cases hv
       exact aU hs (hrun _ _ _ hep) (.int _ _)
      ·rw [hd] at hv
       simp only [aA.val, hd]
       generalize hep : ev p = vp at hv
       cases hv with
       | sl aa b off len cap _ _ cf hlen ha hcap hm hk hn hc' hone hh' =>
        subst hlen
        exact aU hs (hrun _ _ _ hep) (.int _ _)
      ·rw [hd] at hv
       simp only [aA.val, hd]
       generalize hep : ev p = vp at hv
       cases hv with
       | own _ _ _ _ b base tot cap aa hβ ha hcap hm ht =>
        exact aU hs (hrun _ _ _ hep) (.int _ _)
       | own0 => exact aU hs (hrun _ _ _ hep) (.int _ _)
     ·cases hc
    ·cases hc
   | append => simp only [CC.op, ho] at hc; (repeat' split at hc) <;> simp_all [aA.pure] <;> (subst hc; simp_all [aA.pure])
   | _ => simp [CC.op, ho] at hc
  | value f =>
   cases f with
   | func fid => simp only [CC.op, ho] at hc; (repeat' split at hc) <;> simp_all [aA.pure] <;> (subst hc; simp_all [aA.pure])
   | tmp t => simp only [CC.op, ho] at hc; (repeat' split at hc) <;> simp_all [aA.pure] <;> (subst hc; simp_all [aA.pure])
   | _ => simp [CC.op, ho] at hc
  | invoke r n => simp [CC.op, ho] at hc
 | alloc t => simp only [CC.op, ho] at hc; (repeat' split at hc) <;> simp_all [aA.pure] <;> (subst hc; simp_all [aA.pure])
 | box t p => simp only [CC.op, ho] at hc; (repeat' split at hc) <;> simp_all [aA.pure] <;> (subst hc; simp_all [aA.pure])
 | buildSlice t n ps => simp only [CC.op, ho] at hc; (repeat' split at hc) <;> simp_all [aA.pure] <;> (subst hc; simp_all [aA.pure])
 | load t p => simp only [CC.op, ho] at hc; (repeat' split at hc) <;> simp_all [aA.pure] <;> (subst hc; simp_all [aA.pure])
 | store t p q => simp only [CC.op, ho] at hc; (repeat' split at hc) <;> simp_all [aA.pure] <;> (subst hc; simp_all [aA.pure])
 | makeSlice t a b => simp only [CC.op, ho] at hc; (repeat' split at hc) <;> simp_all [aA.pure] <;> (subst hc; simp_all [aA.pure])
 | range t p => simp only [CC.op, ho] at hc; (repeat' split at hc) <;> simp_all [aA.pure] <;> (subst hc; simp_all [aA.pure])
 | next it b =>
  cases b
  ·simp [CC.op, ho] at hc
  ·simp only [CC.op, ho, Option.map_eq_some_iff] at hc
   obtain ⟨s, h1, rfl⟩ := hc
   simp [aA.pure] at hp
 | _ => simp [CC.op, ho] at hc
end
end Go.Abs
end
section
namespace Go.Abs
variable [cd]
theorem jE {α : Type} (l : List α) (j : Nat) (d : α) (h : j < l.length) : l.getD j d = l[j] := by simp [List.getD, h]
theorem BD (cs new : List D) (o : Nat) (h : o + new.length ≤ cs.length) : (over cs o new).length = cs.length := by
 simp only [over, List.length_append, List.length_take, List.length_drop]; omega
theorem zX (cs new : List D) (o : Nat) (h : o + new.length ≤ cs.length) (j : Nat) (d : D) : (over cs o new).getD j d = if o ≤ j ∧ j < o + new.length then new.getD (j - o) d else cs.getD j d := by
 simp only [over, List.getD, List.getElem?_append, List.length_take]
 by_cases j1 : j < o
 ·rw [if_pos (by omega), if_neg (by omega)]; simp [List.getElem?_take, j1]
 ·rw [if_neg (by omega), show j - min o cs.length = j - o by omega]
  by_cases j2 : j < o + new.length
  ·rw [if_pos (by omega), if_pos (by omega)]
  ·rw [if_neg (by omega), if_neg (by omega)]; simp only [List.getElem?_drop]; congr 3; omega
theorem bt (m : List (Nat × bm)) (L : Nat) (b : bm) (l : Nat) : look (cw m L b) l = if l = L then some b else look m l := by
 induction m with
 | nil => by_cases h : l = L <;> simp [cw, look, h, eq_comm] <;> omega
 | cons p r ih =>
  obtain ⟨a, c⟩ := p
  simp only [cw]
  by_cases h : a = L
  ·rw [if_pos h]
   simp only [look]
   by_cases h2 : a = l
   ·rw [if_pos h2, if_pos (by omega)]
   ·rw [if_neg h2, if_neg (by omega), if_neg h2]
  ·rw [if_neg h]
   simp only [look, ih]
   by_cases h2 : a = l
   ·rw [if_pos h2, if_neg (by omega), if_pos h2]
   ·rw [if_neg h2, if_neg h2]
theorem dJ (m : List (Nat × bm)) (k l : Nat) : look (cg m k) l = if l = k then none else look m l := by
 induction m with
 | nil => simp [cg, look]
 | cons p r ih =>
  obtain ⟨a, c⟩ := p
  simp only [cg]
  by_cases h : a = k
  ·rw [if_pos h, ih]
   by_cases h2 : l = k
   ·rw [if_pos h2, if_pos h2]
   ·rw [if_neg h2, if_neg h2]; simp only [look]; rw [if_neg (by omega)]
  ·rw [if_neg h]
   simp only [look, ih]
   by_cases h2 : a = l
   ·rw [if_pos h2, if_neg (by omega), if_pos h2]
   ·rw [if_neg h2, if_neg h2]
def eR (f : Nat → Option bm) (ws : List Nat) (m' : List (Nat × bm)) : Nat → Option bm := fun l => if l ∈ ws then look m' l else f l
section
variable {ν : List (Nat × Nat)} {x : X} {P : Program}
theorem gW (b : Nat) : ∀ (vs : List Value) (o : Nat) (w : World) (c : Array Value) (T : TypeId) (fr : Nat × Nat), w.heap[b]? = some (.cells c T fr) → o + vs.length ≤ c.size →
  ∃ c', (w.setCells b o vs).heap[b]? = some (.cells c' T fr) ∧ c'.size = c.size ∧ ∀ q, c'.getD q undef = if o ≤ q ∧ q < o + vs.length then vs.getD (q - o) undef else c.getD q undef
 | [], o, w, c, T, fr, h, _ => ⟨c, by simpa [World.setCells] using h, rfl, fun q => by rw [if_neg (fun e => by have := e.1; have := e.2; simp at this; omega)]⟩
 | v :: r, o, w, c, T, fr, h, hl => by
  simp only [List.length_cons] at hl
  have h1 : (w.setCell ⟨b, o, none⟩ v).heap[b]? = some (.cells (c.setIfInBounds o v) T fr) := by
   simp [World.setCell, Array.getElem?_modify, h]
  obtain ⟨c', g1, g2, g3⟩ := gW b r (o + 1) _ _ T fr h1 (by simp; omega)
  refine ⟨c', by simpa [World.setCells] using g1, by simpa using g2, fun q => ?_⟩
  rw [g3 q]
  simp only [List.length_cons]
  by_cases q1 : o + 1 ≤ q ∧ q < o + 1 + r.length
  ·rw [if_pos q1, if_pos (by omega), show q - o = (q - (o + 1)) + 1 by omega]; simp
  ·rw [if_neg q1]
   by_cases q2 : q = o
   ·subst q2
    rw [if_pos (by omega)]
    simp [Array.getD, show q < c.size by omega]
   ·rw [if_neg (by omega)]
    rw [← bn, ← bn]
    simp [List.getD, List.getElem?_set, show ¬ o = q by omega]
theorem gr (b : Nat) : ∀ (vs : List Value) (o : Nat) (w : World) (b' : Nat), b' ≠ b → (w.setCells b o vs).heap[b']? = w.heap[b']?
 | [], o, w, b', _ => rfl
 | v :: r, o, w, b', h => by
  rw [show w.setCells b o (v :: r) = (w.setCell ⟨b, o, none⟩ v).setCells b (o + 1) r from rfl, gr b r (o + 1) _ b' h]
  simp [World.setCell, Array.getElem?_modify, show b ≠ b' by omega]
theorem gp (b : Nat) : ∀ (vs : List Value) (o : Nat) (w : World), (w.setCells b o vs).os = w.os ∧ (w.setCells b o vs).tape = w.tape ∧ (w.setCells b o vs).output = w.output ∧ (w.setCells b o vs).heap.size = w.heap.size
 | [], o, w => ⟨rfl, rfl, rfl, rfl⟩
 | v :: r, o, w => by
  have := gp b r (o + 1) (w.setCell ⟨b, o, none⟩ v)
  exact ⟨this.1, this.2.1, this.2.2.1, by rw [show w.setCells b o (v :: r) = (w.setCell ⟨b, o, none⟩ v).setCells b (o + 1) r from rfl, this.2.2.2]; simp⟩
theorem cell_of_heap {w : World} {b o : Nat} {c : Array Value} {T : TypeId} {fr : Nat × Nat} (h : w.heap[b]? = some (.cells c T fr)) (ho : o < c.size) : w.cell? ⟨b, o, none⟩ = some (c.getD o undef) := by
 rw [cell_of_row w b o c T fr h]; simp [Array.getD, ho]
theorem qX {e : D} {k n o b at0 : Nat} {ag : Bool} {ty : TypeId} {c : Nat → Value} (hk : e.cells.length = k) (hle : o + n ≤ k)
  (hc : ∀ j, j < k → x.w.cell? ⟨b, at0 + j, none⟩ = some (c j) ∧ (c j).oneCell' = true ∧ RD ν x (c j) (e.cells.getD j .any))
  (hn : n = P.cellsOf ty) (hn0 : P.cellsOf ty ≠ 0) (hu : (P.underlying ty).isNone = false) (hag : ag = bp P ty) (h1 : ag = false → n = 1) :
  ∃ v, (loadVar ty ⟨b, at0 + o, none⟩).run P x.w = .ok v x.w ∧ RD ν x v (nr e k n o ag) := by
 have hcut : ∃ v, (loadVar ty ⟨b, at0 + o, none⟩).run P x.w = .ok v x.w ∧ RD ν x v (cut e.cells o n ag) ∧ (ag = true → v = .agg ((List.range n).map fun j => c (o + j)).toArray) ∧ (ag = false → v = c o) := by
  cases hb : ag
  ·have hn1 := h1 hb
   refine ⟨c o, ?_, by simp only [cut, cond_false]; exact (hc o (by omega)).2.2, by simp, fun _ => rfl⟩
   rw [hb] at hag
   unfold loadVar
   rw [Sem.run_bind, n5 hu, ← hag]
   simp [Result.andThen, (hc o (by omega)).1]
  ·rw [hb] at hag
   refine ⟨.agg ((List.range n).map fun j => c (o + j)).toArray, ?_, ?_, fun _ => rfl, by simp⟩
   ·unfold loadVar
    rw [Sem.run_bind, n5 hu, ← hag]
    have := run_loadCells (P := P) x.w ⟨b, at0 + o, none⟩ n (fun j => c (o + j)) (fun j hj => by rw [Addr.qB, Nat.add_assoc]; exact (hc (o + j) (by omega)).1)
    simp [Result.andThen, cr hn0, ← hn, this]
   ·simp only [cut, cond_true]
    refine .agg _ _ (by simp; omega) (fun i hi => ?_) (fun i hi => ?_)
    ·simp at hi
     have := (hc (o + i) (by omega)).2.1
     simpa [Array.getD, show i < n by omega] using this
    ·simp at hi
     rw [cR _ _ _ _ _ (by omega)]
     have := (hc (o + i) (by omega)).2.2
     simpa [Array.getD, show i < n by omega] using this
 obtain ⟨v, r1, r2, r3, r4⟩ := hcut
 refine ⟨v, r1, ?_⟩
 unfold nr
 cases hb : (n == k) && (e.isAgg == ag)
 ·simpa using r2
 ·simp only [Bool.and_eq_true, beq_iff_eq] at hb
  obtain ⟨hnk, hea⟩ := hb
  simp only [cond_true]
  have ho : o = 0 := by omega
  subst ho
  cases hb : ag
  ·rw [hb] at hea
   have hv := r4 hb
   have hn1 := h1 hb
   have hcell := (hc 0 (by omega)).2.2
   rw [hv]
   cases e <;> simp only [D.cells, D.isAgg, List.length_nil, List.length_cons] at hk hea hcell <;> first | omega | exact absurd hea (by decide) | exact hcell
  ·rw [hb] at hea
   cases e <;> simp only [D.isAgg, Bool.false_eq_true] at hea
   rename_i ds
   rw [r3 hb]
   simp only [D.cells] at hk hc
   refine .agg _ _ (by simp; omega) (fun i hi => ?_) (fun i hi => ?_)
   ·have := (hc i (by omega)).2.1
    simpa [Array.getD, show i < n by omega] using this
   ·have := (hc i (by omega)).2.2
    simpa [Array.getD, show i < n by omega] using this
theorem nJ {f : Nat → Option bm} {m : List (Nat × bm)} {l k n : Nat} (hs : dm ν x f) (hf : f l = look m l) (hb : dz m l k n) :
  f l = some (.buf k (aE m l)) ∧ n ≤ (aE m l).length ∧ look m l = some (.buf k (aE m l)) := by
 unfold dz at hb
 unfold aE
 cases hl : look m l with
 | none => simp [hl] at hb
 | some blk =>
  cases blk with
  | iter s p => simp [hl] at hb
  | row s => simp [hl] at hb
  | bld o n u => simp [hl] at hb
  | buf k' es => simp only [hl] at hb ⊢; rw [hf, hl, hb.1]; exact ⟨rfl, hb.2, rfl⟩
theorem eO {i k tot j : Nat} (hi : i < tot) (hj : j < k) : i * k + j < tot * k := by
 have : (i + 1) * k ≤ tot * k := Nat.mul_le_mul_right _ hi
 rw [Nat.succ_mul] at this; omega
def vx (f : Nat → Option bm) (m : List (Nat × bm)) : Option (List Nat) → Prop
 | none => ∀ l, look m l ≠ none → f l = look m l
 | some ls => ∀ l, l ∈ ls → f l = look m l
theorem kQ {f f' : Nat → Option bm} {L tot : Nat} {w' : World} {blk : bm} {v : Value} {d : D} {r : Result Next} (hs : dm ν x f) (hL : x.β L = none) (hw : dM x.w w') (hnw : x.w.heap.size < w'.heap.size)
  (hb : j7 ν ⟨w', x.I, cG x.β L (x.w.heap.size, 0, tot)⟩ x.w.heap.size 0 tot blk) (hv : RD ν ⟨w', x.I, cG x.β L (x.w.heap.size, 0, tot)⟩ v d)
  (hr : r = .ok (.value v) w') (hf : ∀ l, f' l = gB f L (some blk) l) : sV ν x f' L d r := by
 have e : f' = gB f L (some blk) := funext hf
 subst e
 exact ⟨v, ⟨w', x.I, cG x.β L (x.w.heap.size, 0, tot)⟩, .inl hr, sK hw (Nat.le_refl _) hL hs.imm, hv, DR hs hw (Nat.le_refl _) hnw hL hb, fun l hl => by simp [cG, hl]⟩
theorem ou {n : Nat} {w' : World} {L tot k : Nat} {c : Array Value} {T : TypeId} {fr : Nat × Nat} {es : List D} (x' : X) (hx : x'.w.heap[n]? = some (.cells c T fr)) (hk : 0 < k) (ht : es.length ≤ tot) (hc : tot * k ≤ c.size)
  (hfr : ∀ o, o < c.size → ¬ (fr.1 ≤ o ∧ o < fr.2))
  (he : ∀ i, i < es.length → (es.getD i .any).cells.length = k ∧ ∀ j, j < k → (c.getD (i * k + j) undef).oneCell' = true ∧ RD ν x' (c.getD (i * k + j) undef) ((es.getD i .any).cells.getD j .any)) :
  j7 ν x' n 0 tot (.buf k es) :=
 ⟨hk, ht, c, T, fr, hx, by omega, hfr, fun i hi => ⟨(he i hi).1, fun j hj => by simpa using (he i hi).2 j hj⟩⟩
end
section
variable {x : X} {f : Nat → Option bm} {C : CC} {defs : List (Option Nat)} {ρ : Src → aN} {ev : Operand → Value} {Γ : Ctx} {m : List (Nat × bm)} {L : Nat}
theorem uU (hs : dm C.ν x f) {w' : World} {tot : Nat} (hw : dM x.w w') (hL : x.β L = none) : Le x ⟨w', x.I, cG x.β L (x.w.heap.size, 0, tot)⟩ :=
 (sK hw (Nat.le_refl _) hL hs.imm).le
theorem yA {v : Value} {d : D} {k : Nat} {T : TypeId} {r : Result Next} (hs : dm C.ν x f) (hL : x.β L = none) (hv : RD C.ν x v d) (hk : d.cells.length = k) (hk0 : k ≠ 0)
  (hr : r = .ok (.value (.pointer (some ⟨x.w.heap.size, 0, none⟩))) (x.w.alloc (.cells v.cells T))) :
  sV C.ν x (eR f [L] (cw m L (.buf k [d]))) L (.ptr L k 0 0) r := by
 have hw := dM.alloc x.w (.cells v.cells T)
 have hle := uU (tot := 1) hs hw hL
 obtain ⟨c1, c2⟩ := hv.cells (by omega)
 refine kQ (tot := 1) (blk := .buf k [d]) hs hL hw (by simp) ?_ (.ptr L k 0 0 x.w.heap.size 0 1 0 (by simp [cG]) (by simp)) hr (fun l => ?_)
 ·refine ou (w' := x.w) (L := L) _ (cM x.w _) (by omega) (by simp) (by omega) (fun o _ => by simp) (fun i hi => ?_)
  simp at hi
  subst hi
  refine ⟨by simpa using hk, fun j hj => ?_⟩
  have := c2 j (by omega)
  exact ⟨by simpa using this.1, by simpa using this.2.mono hle⟩
 ·by_cases e : l = L
  ·subst e; simp [eR, bt, gB]
  ·simp [eR, e, gB]
theorem CV {v : Value} {r : Result Next} (hs : dm C.ν x f) (hL : x.β L = none) (hv : RD C.ν x v (.agg [.nilp, .av]))
  (hr : r = .ok (.value (.pointer (some ⟨x.w.heap.size, 0, none⟩))) (x.w.alloc (.cells v.cells cd.tB))) :
  sV C.ν x (eR f [L] (cw m L (.bld none 0 false))) L (.ptr L 2 0 0) r := by
 have hw := dM.alloc x.w (.cells v.cells cd.tB)
 refine kQ (tot := 1) (blk := .bld none 0 false) hs hL hw (by simp) ?_ (.ptr L 2 0 0 x.w.heap.size 0 1 0 (by simp [cG]) (by simp)) hr (fun l => ?_)
 ·refine ⟨rfl, .slice none 0 0, ?_, rfl, rfl⟩
  refine (cM x.w _).trans ?_
  cases hv with
  | agg cs _ hl h1 h =>
   have e0 := h 0 (by simp)
   have e1 := h 1 (by simp)
   simp only [List.getD_cons_zero, List.getD_cons_succ] at e0 e1
   have hl2 : cs.size = 2 := hl
   have hcs : cs = #[.pointer none, .slice none 0 0] := by
    apply Array.ext
    ·simpa using hl2
    ·intro i hi1 hi2
     have hi : i = 0 ∨ i = 1 := by omega
     rcases hi with rfl | rfl
     ·generalize hq : cs.getD 0 undef = q at e0
      cases e0
      simp [Array.getD, hi1] at hq
      simpa using hq
     ·generalize hq : cs.getD 1 undef = q at e1
      cases e1
      simp [Array.getD, hi1] at hq
      simpa using hq
   subst hcs
   rfl
 ·by_cases e : l = L
  ·subst e; simp [eR, bt, gB]
  ·simp [eR, e, gB]
theorem Bs {o : Oper} {i : aA} (hc : C.op defs o = some i) (ho : (∃ t, o.op = .alloc t) ∨ ∃ t p, o.op = .box t p) (hρ : qa C defs ρ ev x o.op.operands.toList) (hcst : ∀ d, ρ (.c d) = ⟨true, d⟩) (hob : i.cV Γ ρ m) (hs : dm C.ν x f) (hL : x.β L = none) (hB : ∀ t, C.bM.contains (1000000000 + t) = true → t = cd.tB) :
  sV C.ν x (eR f (i.wr ρ L) (i.bM Γ ρ m L)) L (i.val Γ ρ m L) ((execOp ev o).run C.P x.w) := by
 rcases ho with ⟨t, ho⟩ | ⟨t, p, ho⟩
 ·simp only [CC.op, ho] at hc
  split at hc
  ·rename_i z hz
   split at hc
   ·cases hc
   rename_i hce
   obtain ⟨ti, v, hi, hzv, hr⟩ := ng (x := x) hz
   split at hc
   ·rename_i hB0
    split at hc
    ·simp only [Option.some.injEq] at hc
     subst hc
     exact CV hs hL hr (by rw [← hB t hB0]; simp [execOp, ho, Instr.alloc, zeroValue, typeInfo, hi, hzv, newVar, newRow])
    ·cases hc
   simp only [Option.some.injEq] at hc
   subst hc
   obtain ⟨k1, k2⟩ := hob
   simp only [hcst] at k2
   have e : (aA.box (C.P.cellsOf t) (.c z)).bM Γ ρ m L = cw m L (.buf (C.P.cellsOf t) [z]) := by simp [aA.bM, hcst]
   rw [e]
   refine yA (T := t) hs hL hr k2 hce ?_
   simp [execOp, ho, Instr.alloc, zeroValue, typeInfo, hi, hzv, newVar, newRow]
  ·cases hc
 ·simp only [CC.op, ho] at hc
  split at hc
  ·rename_i s h1
   split at hc
   ·cases hc
   rename_i hce
   simp only [Option.some.injEq] at hc
   subst hc
   obtain ⟨k1, k2⟩ := hob
   exact yA (T := t) hs hL (hρ p (by simp [ho, Op.operands, Call.operands]) s h1 k1) k2 hce (by simp [execOp, ho, Instr.box, newVar, newRow])
  ·cases hc
theorem Dt {o : Oper} {i : aA} {t : TypeId} {p : Operand} (hc : C.op defs o = some i) (ho : o.op = .load t p) (hρ : qa C defs ρ ev x o.op.operands.toList) (hob : i.cV Γ ρ m) (hs : dm C.ν x f) (hag : vx f m (i.ki ρ)) :
  sV C.ν x (eR f (i.wr ρ L) (i.bM Γ ρ m L)) L (i.val Γ ρ m L) ((execOp ev o).run C.P x.w) := by
 simp only [CC.op, ho] at hc
 split at hc
 ·rename_i s h1
  split at hc
  ·cases hc
  rename_i hce
  simp only [Option.some.injEq] at hc
  subst hc
  obtain ⟨k1, k2⟩ := hob
  have hv := hρ p (by simp [ho, Op.operands, Call.operands]) s h1 k1
  have haf : eR f ((aA.ld (C.P.cellsOf t) (bp C.P t) s).wr ρ L) ((aA.ld (C.P.cellsOf t) (bp C.P t) s).bM Γ ρ m L) = f := by funext l; simp [eR, aA.wr]
  rw [haf]
  have hn0 : C.P.cellsOf t ≠ 0 := fun e => hce (.inl e)
  have hu : (C.P.underlying t).isNone = false := by cases hn : (C.P.underlying t).isNone with | false => rfl | true => exact absurd (.inr (.inl hn)) hce
  have h1' : bp C.P t = false → C.P.cellsOf t = 1 := fun e => by
   rcases Nat.decEq (C.P.cellsOf t) 1 with h | h
   ·exact absurd (.inr (.inr ⟨e, h⟩)) hce
   ·exact h
  cases hd : (ρ s).d <;> simp only [hd, xg] at k2
  ·rename_i k es i o'
   rw [hd] at hv
   generalize hep : ev p = vp at hv
   cases hv with
   | ref b off _ _ _ at_ _ c hI hat hk hn hcc hone hh =>
    obtain ⟨v, r1, r2⟩ := qX (P := C.P) (ν := C.ν) (x := x) (e := es.getD i .any) (k := k) (n := C.P.cellsOf t) (o := o') (b := b) (at0 := off + i * k) (ag := bp C.P t) (ty := t) (c := c i) (hk i k2.1) k2.2
     (fun j hj => ⟨hcc i j k2.1 hj, hone i j k2.1 hj, hh i j k2.1 hj⟩) rfl hn0 hu rfl h1'
    refine aU hs (v := v) ?_ (by simp only [aA.val, hd, wj]; exact r2)
    simp [execOp, ho, hep, Instr.loadAt, Instr.sureAddr, hat, r1]
  ·rename_i l k i o'
   rw [hd] at hv
   generalize hep : ev p = vp at hv
   cases hv with
   | ptr _ _ _ _ b base tot at_ hβ hat =>
    obtain ⟨g1, g2, g3⟩ := nJ (n := i + 1) hs (hag l (by simp [hd, bW])) k2.1
    obtain ⟨hnI, hk0, ht, c, T, fr, q1, q2, q3, q4⟩ := hs.own l _ b base tot g1 hβ
    have hi : i < (aE m l).length := by omega
    obtain ⟨v, r1, r2⟩ := qX (P := C.P) (ν := C.ν) (x := x) (e := (aE m l).getD i .any) (k := k) (n := C.P.cellsOf t) (o := o') (b := b) (at0 := base + i * k) (ag := bp C.P t) (ty := t) (c := fun j => c.getD (base + i * k + j) undef)
     ((q4 i hi).1) k2.2
     (fun j hj => ⟨cell_of_heap q1 (by have := eO (tot := tot) (show i < tot by omega) hj; omega), ((q4 i hi).2 j hj).1, ((q4 i hi).2 j hj).2⟩) rfl hn0 hu rfl h1'
    refine aU hs (v := v) ?_ (by simp only [aA.val, hd, wj]; exact r2)
    simp [execOp, ho, hep, Instr.loadAt, Instr.sureAddr, hat, r1]
 ·cases hc
theorem Bw {o : Oper} {i : aA} {t : TypeId} {p q : Operand} (hc : C.op defs o = some i) (ho : o.op = .store t p q) (hρ : qa C defs ρ ev x o.op.operands.toList) (hob : i.cV Γ ρ m) (hs : dm C.ν x f) (hag : vx f m (i.ki ρ)) :
  sV C.ν x (eR f (i.wr ρ L) (i.bM Γ ρ m L)) L (i.val Γ ρ m L) ((execOp ev o).run C.P x.w) := by
 simp only [CC.op, ho] at hc
 split at hc
 ·rename_i s u h1 h2
  split at hc
  ·cases hc
  rename_i hce
  simp only [Option.some.injEq] at hc
  subst hc
  obtain ⟨k1, k2, k3, k4⟩ := hob
  have hv := hρ p (by simp [ho, Op.operands, Call.operands]) s h1 k1
  have hw := hρ q (by simp [ho, Op.operands, Call.operands]) u h2 k2
  cases hd : (ρ s).d <;> simp only [hd] at k4
  rename_i l k i o'
  rw [hd] at hv
  generalize hep : ev p = vp at hv
  cases hv with
  | ptr _ _ _ _ b base tot at_ hβ hat =>
   obtain ⟨g1, g2, g3⟩ := nJ (n := i + 1) hs (hag l (by simp [hd, bW])) k4.1
   obtain ⟨hnI, hk0, ht, c, T, fr, q1, q2, q3, q4⟩ := hs.own l _ b base tot g1 hβ
   have hi : i < (aE m l).length := by omega
   obtain ⟨c1, c2⟩ := hw.cells (by omega)
   have hnl : (ev q).cells.toList.length = C.P.cellsOf t := by simp; omega
   have hin : ∀ j, j < C.P.cellsOf t → base + i * k + o' + j < c.size := fun j hj => by
    have := eO (tot := tot) (i := i) (k := k) (j := o' + j) (by omega) (by omega); omega
   have hst := run_storeCells_cells (P := C.P) b (base + i * k + o') (ev q).cells.toList 0 x.w
    (fun j hj => by rw [cell_of_heap q1 (by have := hin j (by omega); omega)]; rfl)
    (fun j hj => by
      have := q3 (base + i * k + o' + 0 + j) (by have := hin j (by omega); omega)
      simp only [World.frozen?, q1]
      simp only [Bool.and_eq_false_iff, decide_eq_false_iff_not]
      omega)
    (fun v hv => by
      obtain ⟨j, hj, rfl⟩ := List.mem_iff_getElem.1 hv
      rw [← jE _ j undef hj, bn]
      exact (c2 j (by omega)).1)
   simp only [Nat.add_zero] at hst
   obtain ⟨c', s1, s2, s3⟩ := gW b (ev q).cells.toList (base + i * k + o') x.w c T fr q1 (by have := hin (C.P.cellsOf t - 1) (by omega); omega)
   obtain ⟨f1, f2, f3, f4⟩ := gp b (ev q).cells.toList (base + i * k + o') x.w
   let w' := x.w.setCells b (base + i * k + o') (ev q).cells.toList
   have hother : ∀ b', b' ≠ b → w'.heap[b']? = x.w.heap[b']? := fun b' hb' => gr b _ _ _ b' hb'
   have hstep : Step x ⟨w', x.I, x.β⟩ := by
    refine ⟨f1, f2, f3, by show _ ≤ w'.heap.size; rw [f4]; exact Nat.le_refl _, fun _ h => h, fun b' hb' => hother b' (fun e => hnI (e ▸ hb')), fun _ _ h => h, fun b' _ hn => hother b' (fun e => hn l _ hβ e.symm), fun _ h => .inl h, fun _ _ h => .inl h⟩
   let es' := (aE m l).set i (sJ ((aE m l).getD i .any) k (C.P.cellsOf t) o' (ρ u).d)
   have hle := hstep.le

   have hel : (sJ ((aE m l).getD i .any) k (C.P.cellsOf t) o' (ρ u).d).cells.length = k ∧ ∀ j, j < k →
     (sJ ((aE m l).getD i .any) k (C.P.cellsOf t) o' (ρ u).d).cells.getD j .any = if o' ≤ j ∧ j < o' + C.P.cellsOf t then (ρ u).d.cells.getD (j - o') .any else ((aE m l).getD i .any).cells.getD j .any := by
    unfold sJ
    have hkl := (q4 i hi).1
    cases hnk : ((C.P.cellsOf t == k) && ((ρ u).d.isAgg || !((aE m l).getD i .any).isAgg))
    ·simp only [cond_false]
     refine ⟨(BD _ _ _ (by omega)).trans hkl, fun j hj => ?_⟩
     rw [← k3]
     exact zX _ _ _ (by omega) _ _
    ·simp only [Bool.and_eq_true, beq_iff_eq] at hnk
     have hnk := hnk.1
     simp only [cond_true]
     refine ⟨by omega, fun j hj => ?_⟩
     have : o' = 0 := by omega
     subst this
     rw [if_pos (by omega)]
     simp
   have hblk : j7 C.ν ⟨w', x.I, x.β⟩ b base tot (.buf k es') := by
    refine ⟨hk0, by simp [es']; omega, c', T, fr, s1, by omega, fun o'' ho'' => q3 o'' (by omega), fun i' hi' => ?_⟩
    have hi2 : i' < (aE m l).length := by simpa [es'] using hi'
    by_cases e : i' = i
    ·subst e
     have hg : es'.getD i' .any = sJ ((aE m l).getD i' .any) k (C.P.cellsOf t) o' (ρ u).d := by simp [es', List.getD, List.getElem?_set, hi2]
     rw [hg]
     refine ⟨hel.1, fun j hj => ?_⟩
     rw [hel.2 j hj, s3]
     by_cases hj2 : o' ≤ j ∧ j < o' + C.P.cellsOf t
     ·rw [if_pos (by omega), if_pos hj2, show base + i' * k + j - (base + i' * k + o') = j - o' by omega, bn]
      have := c2 (j - o') (by omega)
      exact ⟨this.1, this.2.mono hle⟩
     ·rw [if_neg (by omega), if_neg hj2]
      exact ⟨((q4 i' hi2).2 j hj).1, ((q4 i' hi2).2 j hj).2.mono hle⟩
    ·have hg : es'.getD i' .any = (aE m l).getD i' .any := by simp [es', List.getD, List.getElem?_set, show ¬ i = i' by omega]
     rw [hg]
     refine ⟨(q4 i' hi2).1, fun j hj => ?_⟩
     rw [s3]
     have hne : ¬ (base + i * k + o' ≤ base + i' * k + j ∧ base + i' * k + j < base + i * k + o' + (ev q).cells.toList.length) := by
      rw [hnl]
      rcases Nat.lt_or_ge i' i with hlt | hge
      ·have : (i' + 1) * k ≤ i * k := Nat.mul_le_mul_right _ hlt
       rw [Nat.succ_mul] at this; omega
      ·have : (i + 1) * k ≤ i' * k := Nat.mul_le_mul_right _ (by omega)
       rw [Nat.succ_mul] at this; omega
     rw [if_neg hne]
     exact ⟨((q4 i' hi2).2 j hj).1, ((q4 i' hi2).2 j hj).2.mono hle⟩
   refine ⟨undef, ⟨w', x.I, x.β⟩, .inr ⟨?_, rfl⟩, hstep, .any _, ?_, fun _ _ => rfl⟩
   ·have hsz : (ev q).cells.size = C.P.cellsOf t := by omega
    simp [execOp, ho, hep, Instr.storeAt, Instr.sureAddr, storeVar, cr hce, hsz, hat, hst, w']
   ·have haf : ∀ l', eR f ((aA.st (C.P.cellsOf t) s u).wr ρ L) ((aA.st (C.P.cellsOf t) s u).bM Γ ρ m L) l' = gB f l (some (.buf k es')) l' := by
     intro l'
     simp only [eR, aA.wr, hd, bW, aA.bM, List.mem_singleton, bt, gB, es']
     by_cases e : l' = l
     ·rw [if_pos e, if_pos e, if_pos e]
     ·rw [if_neg e, if_neg e]
    refine ⟨fun l' blk b' base' tot' e1 e2 => ?_, fun l1 l2 b' base' tot' base'' tot'' e1 e2 e3 e4 => ?_, fun b' hb' => by show b' < w'.heap.size; rw [f4]; exact hs.imm b' hb', fun l' b' base' tot' e => by show b' < w'.heap.size; rw [f4]; exact hs.cT l' b' base' tot' e, mc hle hs.gd⟩
    ·rw [haf] at e1
     by_cases e : l' = l
     ·subst e
      simp only [gB, if_true, Option.some.injEq] at e1
      subst e1
      have e2' : x.β l' = some (b', base', tot') := e2
      rw [hβ] at e2'
      simp only [Option.some.injEq, Prod.mk.injEq] at e2'
      obtain ⟨rfl, rfl, rfl⟩ := e2'
      exact ⟨hnI, hblk⟩
     ·simp only [gB, e, if_false] at e1
      obtain ⟨a1, a2⟩ := hs.own l' blk b' base' tot' e1 e2
      refine ⟨a1, a2.mono hle (hother b' (fun eb => ?_))⟩
      subst eb
      exact e (hs.inj l' l b' base' tot' base tot (by rw [e1]; simp) (by rw [g1]; simp) e2 hβ)
    ·rw [haf] at e1 e2
     refine hs.inj l1 l2 b' base' tot' base'' tot'' ?_ ?_ e3 e4
     ·by_cases e : l1 = l
      ·rw [e, g1]; simp
      ·simpa [gB, e] using e1
     ·by_cases e : l2 = l
      ·rw [e, g1]; simp
      ·simpa [gB, e] using e2
 ·cases hc
end
end Go.Abs
end
section
namespace Go.Abs
variable [cd]
section
variable {x : X} {f : Nat → Option bm} {C : CC} {defs : List (Option Nat)} {ρ : Src → aN} {ev : Operand → Value} {Γ : Ctx} {m : List (Nat × bm)} {L : Nat}
theorem qO (f : Nat → Option bm) (m : List (Nat × bm)) (L : Nat) (b : bm) : ∀ l, eR f [L] (cw m L b) l = gB f L (some b) l := by
 intro l
 by_cases e : l = L
 ·subst e; simp [eR, bt, gB]
 ·simp [eR, e, gB]
theorem Aa {z : Value} {d : D} {k : Nat} (hz : RD C.ν x z d) (hk : d.cells.length = k) (hk0 : k ≠ 0) (n i j : Nat) (hi : i < n) (hj : j < k) :
  (((Array.range (n * k)).map (z.cells[· % z.cells.size]!)).getD (i * k + j) undef) = z.cells.getD j undef := by
 obtain ⟨c1, _⟩ := hz.cells (by omega)
 have hlt := eO hi hj
 have hm : (i * k + j) % k = j := by rw [Nat.mul_comm, Nat.mul_add_mod]; exact Nat.mod_eq_of_lt hj
 simp [Array.getD, hlt, c1, hk, hm, show j < k from hj]
theorem Bv {o : Oper} {i : aA} {t : TypeId} {p : Operand} (hc : C.op defs o = some i) (ho : o.op = .range t p) (hρ : qa C defs ρ ev x o.op.operands.toList) (hob : i.cV Γ ρ m) (hs : dm C.ν x f) (hL : x.β L = none) :
  sV C.ν x (eR f (i.wr ρ L) (i.bM Γ ρ m L)) L (i.val Γ ρ m L) ((execOp ev o).run C.P x.w) := by
 simp only [CC.op, ho] at hc
 split at hc
 ·rename_i s hu h1
  simp only [Option.some.injEq] at hc
  subst hc
  obtain ⟨k1, k2⟩ := hob
  have hv := hρ p (by simp [ho, Op.operands, Call.operands]) s h1 k1
  cases hd : (ρ s).d <;> simp only [hd] at k2
  rename_i b
  rw [hd] at hv
  obtain ⟨e1, e2⟩ := hv.fj
  have e : (aA.rng s).bM Γ ρ m L = cw m L (.iter b 0) := by simp [aA.bM, hd]
  rw [e]
  refine kQ (tot := 0) (blk := .iter b 0) hs hL (dM.alloc x.w (.stringIter ⟨⟨b⟩⟩ 0)) (by simp) ⟨cM x.w _, e2⟩ (.it L x.w.heap.size 0 0 (by simp [cG])) ?_ (qO f m L _)
  simp [execOp, ho, e1, Instr.range, run_underlying hu]
 ·cases hc
theorem Fz {o : Oper} {i : aA} {s d : TypeId} {p : Operand} {a : Src} (hc : C.op defs o = some (.s2b a)) (ho : o.op = .convert s d p) (hρ : qa C defs ρ ev x o.op.operands.toList) (hob : (aA.s2b a).cV Γ ρ m) (hs : dm C.ν x f) (hL : x.β L = none) :
  sV C.ν x (eR f ((aA.s2b a).wr ρ L) ((aA.s2b a).bM Γ ρ m L)) L ((aA.s2b a).val Γ ρ m L) ((execOp ev o).run C.P x.w) := by
 simp only [CC.op, ho] at hc
 split at hc
 ·simp at hc
 ·simp at hc
 ·rename_i eT a' hu1 hu2 h1
  split at hc
  ·rename_i hue
   simp only [Option.some.injEq, aA.s2b.injEq] at hc
   subst hc
   obtain ⟨k1, k2⟩ := hob
   have hv := hρ p (by simp [ho, Op.operands, Call.operands]) a' h1 k1
   cases hd : (ρ a').d <;> simp only [hd] at k2
   rename_i b
   rw [hd] at hv
   obtain ⟨e1, e2⟩ := hv.fj
   have e : (aA.s2b a').bM Γ ρ m L = cw m L (.buf 1 (b.map fun q => .int .u8 q.toNat)) := by simp [aA.bM, hd]
   rw [e]
   have hsz : (⟨⟨b⟩⟩ : ByteArray).size = b.length := rfl
   let cap := grownCap x.w b.length 0 eT
   have hcap : b.length ≤ cap := grownCap_ge x.w b.length 0 eT
   have hcm : cap ≤ maxLen := grownCap_le_maxLen x.w b.length 0 eT e2
   let row := bytesRow ⟨⟨b⟩⟩ cap
   have hrs : row.size = cap := by simp [row, bytesRow, hsz]; show b.length + (cap - b.length) = cap; omega
   have hrun := run_bytes_of_string (P := C.P) x.w s d eT ⟨⟨b⟩⟩ hu1 hu2 hue
   have hgrow : dM x.w (x.w.drew.alloc (.cells row eT (row.size, row.size + 1))) := (dM.drew x.w).trans (dM.alloc x.w.drew _)
   have hnew : (x.w.drew.alloc (.cells row eT (row.size, row.size + 1))).heap[x.w.heap.size]? = some (.cells row eT (row.size, row.size + 1)) := cM x.w.drew _
   have hget : ∀ i, i < b.length → row.getD i undef = .int .u8 (b.getD i 0).toNat := by
    intro i hi
    have e3 : (b.map fun q => Value.int .u8 q.toNat).getD i undef = .int .u8 (b.getD i 0).toNat := by simp [List.getD, hi]
    rw [← e3, ← bn]
    simp [row, bytesRow, List.getD, List.getElem?_append, hi]
   refine kQ (v := .slice (some ⟨x.w.heap.size, 0, none⟩) b.length cap) (tot := cap) (blk := bm.buf 1 (List.map (fun q : UInt8 => D.int .u8 (q.toNat : Int)) b)) hs hL hgrow (by show _ < (x.w.heap.push _).size; simp) ?_ ?_ ?_ (qO f m L _)
   ·refine ou (w' := x.w) (L := L) _ hnew (by omega) (by simpa using hcap) (by omega) (fun o' ho' => by simp; omega) (fun i hi => ?_)
    simp only [List.length_map] at hi
    have hg : (b.map fun q => D.int .u8 q.toNat).getD i .any = .int .u8 (b.getD i 0).toNat := by simp [List.getD, hi]
    rw [hg]
    refine ⟨rfl, fun j hj => ?_⟩
    have : j = 0 := by omega
    subst this
    rw [show i * 1 + 0 = i by omega, hget i hi]
    exact ⟨rfl, .int _ _⟩
   ·simp only [aA.val, hd]
    exact .own L 1 0 b.length x.w.heap.size 0 cap cap ⟨x.w.heap.size, 0, none⟩ (by simp [cG]) (fun _ => by simp) hcap hcm (by omega)
   ·simp only [execOp, ho, e1, Sem.run_bind, hrun, Result.andThen_ok, Sem.run_pure]
    rfl
  ·cases hc
 ·split at hc
  ·simp at hc
  ·cases hc
 ·cases hc
theorem Fw {o : Oper} {s d : TypeId} {p : Operand} {a : Src} (hc : C.op defs o = some (.b2s a)) (ho : o.op = .convert s d p) (hρ : qa C defs ρ ev x o.op.operands.toList) (hob : (aA.b2s a).cV Γ ρ m) (hs : dm C.ν x f) (hag : vx f m ((aA.b2s a).ki ρ)) :
  sV C.ν x (eR f ((aA.b2s a).wr ρ L) ((aA.b2s a).bM Γ ρ m L)) L ((aA.b2s a).val Γ ρ m L) ((execOp ev o).run C.P x.w) := by
 have haf : eR f ((aA.b2s a).wr ρ L) ((aA.b2s a).bM Γ ρ m L) = f := by funext l; simp [eR, aA.wr]
 rw [haf]
 simp only [CC.op, ho] at hc
 split at hc
 ·simp at hc
 ·simp at hc
 ·split at hc
  ·simp at hc
  ·cases hc
 ·rename_i eT a' hu1 hu2 h1
  split at hc
  ·rename_i hue
   simp only [Option.some.injEq, aA.b2s.injEq] at hc
   subst hc
   obtain ⟨k1, k2, k3, k4⟩ := hob
   have hv := hρ p (by simp [ho, Op.operands, Call.operands]) a' h1 k1
   have hd1 : C.P.underlying d = some .string := hu2
   have hconv : ∀ b l c, ev p = .slice b l c → (execOp ev o).run C.P x.w = ((Conv.bytesToString (.slice b l c)).run C.P x.w).andThen fun v w' => .ok (.value v) w' := by
    intro b l c he
    simp only [execOp, ho, he, Sem.run_bind, run_convert_bytes_string x.w s d eT b l c hu1 hue hu2, Sem.run_pure]
   have key : ∀ (aa : Addr) (len cap : Nat) (es : List D), es.length = len → (∀ e ∈ es, e.zH) → len ≤ maxLen → (∀ i, i < len → ∃ v, x.w.cell? ⟨aa.block, aa.off + i, none⟩ = some v ∧ RD C.ν x v (es.getD i .any)) → (0 < len → aa.spot = none) →
     ev p = .slice (some aa) len cap → sV C.ν x f L (.str (es.map D.u8)) ((execOp ev o).run C.P x.w) := by
    intro aa len cap es hlen hu8 hm hcell hspot he
    have hv' : ∀ i, i < len → ∃ n, es.getD i .any = .int .u8 n ∧ 0 ≤ n ∧ n < 256 := by
     intro i hi
     have hmem := hu8 (es.getD i .any) (by rw [jE _ _ _ (by omega)]; exact List.getElem_mem _)
     cases hg : es.getD i .any <;> simp only [hg, D.zH] at hmem
     obtain ⟨rfl, h1, h2⟩ := hmem
     exact ⟨_, rfl, h1, h2⟩
    let ns : List Int := es.map fun e => match e with | .int _ n => n | _ => 0
    have hload : (loadCells aa len).run C.P x.w = .ok (ns.map (Value.int .u8)).toArray x.w := by
     have := run_loadCells (P := C.P) x.w aa len (fun j => .int .u8 (ns.getD j 0)) (fun j hj => by
      obtain ⟨v, c1, c2⟩ := hcell j hj
      obtain ⟨n, g1, _, _⟩ := hv' j hj
      have hn : ns.getD j 0 = n := by
       rw [jE _ _ _ (by omega)] at g1
       simp [ns, List.getD, show j < es.length by omega, g1]
      rw [hn]
      rw [g1] at c2
      rw [← c2.cx, ← c1]
      have hsp := hspot (by omega)
      congr 1
      obtain ⟨ab, ao, as⟩ := aa
      simp only at hsp
      subst hsp
      rw [Addr.qB])
     rw [this]
     congr 2
     apply List.ext_getElem
     ·simp [ns, hlen]
     ·intro i h1 h2
      simp at h1 h2
      simp [List.getD, ns, show i < es.length by omega]
    refine aU hs (v := .string ⟨⟨es.map D.u8⟩⟩) ?_ (.str _ (by simp; omega))
    rw [hconv _ _ _ he, run_bytesToString x.w aa len cap ns hload]
    simp only [Result.andThen_ok]
    congr 3
    have hfold : ∀ (l : List Int) (s0 : ByteArray), l.foldl (fun r n => r.push (UInt8.ofNat n.toNat)) s0 = ⟨⟨s0.data.toList ++ l.map fun n => UInt8.ofNat n.toNat⟩⟩ := by
     intro l
     induction l with
     | nil => intro s0; simp
     | cons n r ih =>
      intro s0
      rw [List.foldl_cons, ih]
      congr 2
      simp [ByteArray.push]
    rw [hfold]
    have e0 : (ByteArray.empty.data.toList : List UInt8) = [] := rfl
    rw [e0, List.nil_append]
    congr 2
    simp only [ns, List.map_map]
    apply List.map_congr_left
    intro e he'
    have := hu8 e he'
    cases e <;> simp only [D.zH] at this
    rfl
   cases hd : (ρ a').d <;> simp only [hd, uM] at k2 k3 k4
   ·
    rw [hd] at hv
    simp only [aA.val, hd, lI, List.map_nil]
    generalize hep : ev p = vp at hv
    cases hv
    refine aU hs (v := .string ⟨⟨[]⟩⟩) ?_ (.str _ (by simp))
    rw [hconv _ _ _ hep]
    rfl
   ·rename_i k es
    rw [hd] at hv
    simp only [aA.val, hd, lI]
    simp only [lI] at k4
    subst k3
    generalize hep : ev p = vp at hv
    cases hv with
    | sl aa b off len cap _ _ c hlen ha hcap hm hk hn hcc hone hh =>
     by_cases he0 : es = []
     ·subst he0
      simp at hlen
      subst hlen
      refine aU hs (v := .string ⟨⟨[]⟩⟩) ?_ (.str _ (by simp))
      rw [hconv _ _ _ hep]
      cases aa with
      | none => rfl
      | some aa =>
       rw [run_bytesToString x.w aa 0 cap [] (by simp [loadCells, loadCellsFrom])]
       rfl
     ·rcases ha with h | ⟨rfl, hI⟩
      ·exact absurd h he0
      ·refine key _ len cap es hlen.symm k4 (by omega) (fun i hi => ⟨c i 0, by have := hcc i 0 hi (by omega); simpa using this, ?_⟩) (fun _ => rfl) hep
       have := hh i 0 hi (by omega)
       have hk1 := hk i hi
       cases hg : es.getD i .any <;> rw [hg] at this hk1 <;> simp only [D.cells, List.length_nil, List.length_cons] at hk1 this <;> first | omega | exact this | skip
       rename_i cs
       have hmem := k4 (es.getD i .any) (by rw [jE _ _ _ (by omega)]; exact List.getElem_mem _)
       rw [hg] at hmem
       simp [D.zH] at hmem
   ·rename_i l k i n
    rw [hd] at hv
    simp only [aA.val, hd, lI]
    simp only [lI] at k4
    obtain ⟨k5, k6⟩ := k3
    subst k5
    generalize hep : ev p = vp at hv
    cases hv with
    | own _ _ _ _ b base tot cap aa hβ ha hcap hm ht =>
     obtain ⟨g1, g2, g3⟩ := nJ hs (hag l (by simp [hd, bW])) k6
     obtain ⟨hnI, hk0, ht', c, T, fr, q1, q2, q3, q4⟩ := hs.own l _ b base tot g1 hβ
     have hlen : (((aE m l).drop i).take n).length = n := eH _ _ _ g2
     refine key aa n cap _ hlen k4 (by omega) (fun j hj => ?_) (fun h => by rw [ha (by omega)]) hep
     have ha' := ha (by omega)
     subst ha'
     have hij : i + j < (aE m l).length := by omega
     refine ⟨c.getD (base + (i + j) * 1 + 0) undef, ?_, ?_⟩
     ·rw [show base + i * 1 + j = base + (i + j) * 1 + 0 by omega]
      exact cell_of_heap q1 (by omega)
     ·rw [cR _ _ _ _ _ hj]
      have := ((q4 (i + j) hij).2 0 (by omega)).2
      have hk1 := (q4 (i + j) hij).1
      cases hg : (aE m l).getD (i + j) .any <;> rw [hg] at this hk1 <;> simp only [D.cells, List.length_nil, List.length_cons] at hk1 this <;> first | omega | exact this | skip
      rename_i cs
      have hmem := k4 ((((aE m l).drop i).take n).getD j .any) (by rw [jE _ _ _ (by omega)]; exact List.getElem_mem _)
      rw [cR _ _ _ _ _ hj, hg] at hmem
      simp [D.zH] at hmem
    | own0 =>
     simp only [List.take_zero, List.map_nil]
     refine aU hs (v := .string ⟨⟨[]⟩⟩) ?_ (.str _ (by simp))
     rw [hconv _ _ _ hep]
     rfl
  ·cases hc
 ·cases hc
theorem Du {o : Oper} {i : aA} {p : Operand} (hc : C.op defs o = some i) (ho : o.op = .next p true) (hρ : qa C defs ρ ev x o.op.operands.toList) (hob : i.cV Γ ρ m) (hs : dm C.ν x f) (hag : vx f m (i.ki ρ)) :
  sV C.ν x (eR f (i.wr ρ L) (i.bM Γ ρ m L)) L (i.val Γ ρ m L) ((execOp ev o).run C.P x.w) := by
 simp only [CC.op, ho, Option.map_eq_some_iff] at hc
 obtain ⟨s, h1, rfl⟩ := hc
 obtain ⟨k1, k2⟩ := hob
 have hv := hρ p (by simp [ho, Op.operands, Call.operands]) s h1 k1
 cases hd : (ρ s).d <;> simp only [hd] at k2
 rename_i l
 rw [hd] at hv
 cases hl : look m l with
 | none => simp [hl] at k2
 | some blk =>
  cases blk with
  | buf k es => simp [hl] at k2
  | row s => simp [hl] at k2
  | bld o n u => simp [hl] at k2
  | iter b pos =>
   have hfl : f l = some (.iter b pos) := by rw [← hl]; exact hag l (by simp [hd, bW])
   generalize hep : ev p = vp at hv
   cases hv with
   | it _ bb base tot hβ =>
    obtain ⟨hnI, hb1, hb2⟩ := hs.own l _ bb base tot hfl hβ
    have hlt := hs.cT l bb base tot hβ
    by_cases hp : pos < b.length
    ·have hsz : (⟨⟨b⟩⟩ : ByteArray).size = b.length := rfl
     let w' : World := { x.w with heap := x.w.heap.setIfInBounds bb (.stringIter ⟨⟨b⟩⟩ (pos + (pz b pos).2)) }
     have hother : ∀ b', b' ≠ bb → w'.heap[b']? = x.w.heap[b']? := fun b' hb' => by simp [w', Array.getElem?_setIfInBounds, show ¬ bb = b' by omega]
     have hhere : w'.heap[bb]? = some (.stringIter ⟨⟨b⟩⟩ (pos + (pz b pos).2)) := by simp [w', hlt]
     have hsize : w'.heap.size = x.w.heap.size := by simp [w']
     have hstep : Step x ⟨w', x.I, x.β⟩ :=
      ⟨rfl, rfl, rfl, by show _ ≤ w'.heap.size; omega, fun _ h => h, fun b' hb' => hother b' (fun e => hnI (e ▸ hb')), fun _ _ h => h, fun b' _ hn => hother b' (fun e => hn l _ hβ e.symm), fun _ h => .inl h, fun _ _ h => .inl h⟩
     have haf : ∀ l', eR f ((aA.sW s).wr ρ L) ((aA.sW s).bM Γ ρ m L) l' = gB f l (some (.iter b (pos + (pz b pos).2))) l' := by
      intro l'
      simp only [eR, aA.wr, hd, bW, aA.bM, hl, hp, decide_true, cond_true, List.mem_singleton, bt, gB]
      by_cases e : l' = l
      ·rw [if_pos e, if_pos e, if_pos e]
      ·rw [if_neg e, if_neg e]
     refine ⟨.tuple #[.bool true, .int .i64 pos, .int .i32 (pz b pos).1], ⟨w', x.I, x.β⟩, .inl ?_, hstep, ?_, ?_, fun _ _ => rfl⟩
     ·have hobj : (getObj bb).run C.P x.w = .ok (.stringIter ⟨⟨b⟩⟩ pos) x.w := by simp [getObj, Sem.run, hb1]
      have hset : ∀ ob : Obj, (setObj bb ob).run C.P x.w = .ok () { x.w with heap := x.w.heap.setIfInBounds bb ob } := by intro ob; simp [setObj, Sem.run, hb1]
      simp [execOp, ho, hep, Instr.next, hobj, hsz, hp, hset, goInt, pz, w']
     ·simp only [aA.val, hd, hl, hp, decide_true, cond_true]
      refine .tup _ _ (by simp) (fun i hi => ?_)
      simp at hi
      match i, hi with
      | 0, _ => simpa using RD.bool true
      | 1, _ => simpa using RD.int .i64 pos
      | 2, _ => simpa using RD.int .i32 (pz b pos).1
     ·refine ⟨fun l' blk b' base' tot' e1 e2 => ?_, fun l1 l2 b' base' tot' base'' tot'' e1 e2 e3 e4 => ?_, fun b' hb' => by show b' < w'.heap.size; rw [hsize]; exact hs.imm b' hb', fun l' b' base' tot' e => by show b' < w'.heap.size; rw [hsize]; exact hs.cT l' b' base' tot' e, mc hstep.le hs.gd⟩
      ·rw [haf] at e1
       by_cases e : l' = l
       ·subst e
        simp only [gB, if_true, Option.some.injEq] at e1
        subst e1
        have e2' : x.β l' = some (b', base', tot') := e2
        rw [hβ] at e2'
        simp only [Option.some.injEq, Prod.mk.injEq] at e2'
        obtain ⟨rfl, rfl, rfl⟩ := e2'
        exact ⟨hnI, hhere, hb2⟩
       ·simp only [gB, e, if_false] at e1
        obtain ⟨a1, a2⟩ := hs.own l' blk b' base' tot' e1 e2
        refine ⟨a1, a2.mono hstep.le (hother b' (fun eb => ?_))⟩
        subst eb
        exact e (hs.inj l' l b' base' tot' base tot (by rw [e1]; simp) (by rw [hfl]; simp) e2 hβ)
      ·rw [haf] at e1 e2
       refine hs.inj l1 l2 b' base' tot' base'' tot'' ?_ ?_ e3 e4
       ·by_cases e : l1 = l
        ·rw [e, hfl]; simp
        ·simpa [gB, e] using e1
       ·by_cases e : l2 = l
        ·rw [e, hfl]; simp
        ·simpa [gB, e] using e2
    ·have haf : eR f ((aA.sW s).wr ρ L) ((aA.sW s).bM Γ ρ m L) = f := by
      funext l'
      simp only [eR, aA.wr, hd, bW, aA.bM, hl, hp, decide_false, cond_false, List.mem_singleton]
      by_cases e : l' = l
      ·rw [if_pos e, e, hl, hfl]
      ·rw [if_neg e]
     rw [haf]
     refine aU hs (v := .tuple #[.bool false]) ?_ ?_
     ·have hsz : (⟨⟨b⟩⟩ : ByteArray).size = b.length := rfl
      have hobj : (getObj bb).run C.P x.w = .ok (.stringIter ⟨⟨b⟩⟩ pos) x.w := by simp [getObj, Sem.run, hb1]
      simp [execOp, ho, hep, Instr.next, hobj, hsz, hp]
     ·simp only [aA.val, hd, hl, hp, decide_false, cond_false]
      refine .tup _ _ (by simp) (fun i hi => ?_)
      simp at hi
      subst hi
      simpa using RD.bool false
theorem qf {k n : Nat} {os' : List Operand} (hρ : qa C defs ρ ev x os') (hk0 : k ≠ 0) : ∀ (ps : List (Nat × Operand)) (ss : List (Nat × Src)), (∀ p ∈ ps, p.2 ∈ os') → C.pR defs ps = some ss → nS ρ k n ss →
  ∀ (cs : Array Value) (es : List D), cs.size = n * k → es.length = n →
   (∀ i, i < n → (es.getD i .any).cells.length = k ∧ ∀ j, j < k → (cs.getD (i * k + j) undef).oneCell' = true ∧ RD C.ν x (cs.getD (i * k + j) undef) ((es.getD i .any).cells.getD j .any)) →
  ∃ cs', Instr.fill (fun i => some (i * k, k)) cs (ps.map fun (i, o) => (i, ev o)) = some cs' ∧ cs'.size = n * k ∧ (iA ρ es ss).length = n ∧
   ∀ i, i < n → ((iA ρ es ss).getD i .any).cells.length = k ∧ ∀ j, j < k → (cs'.getD (i * k + j) undef).oneCell' = true ∧ RD C.ν x (cs'.getD (i * k + j) undef) (((iA ρ es ss).getD i .any).cells.getD j .any)
 | [], ss, _, h, _, cs, es, h1, h2, h3 => by simp [CC.pR] at h; subst h; exact ⟨cs, by simp [Instr.fill], h1, by simpa [iA] using h2, by simpa [iA] using h3⟩
 | (i, o) :: r, ss, hm, h, hk, cs, es, h1, h2, h3 => by
  simp only [CC.pR] at h
  split at h
  ·rename_i s l g1 g2
   simp only [Option.some.injEq] at h
   subst h
   simp only [nS] at hk
   obtain ⟨k1, k2, k3, k4⟩ := hk
   have hv := hρ o (hm _ (.head _)) s g1 k2
   obtain ⟨c1, c2⟩ := hv.cells (by omega)
   have hsz : (ev o).cells.size = k := by omega
   have hb : i * k + k ≤ n * k := by rw [← Nat.succ_mul]; exact Nat.mul_le_mul_right _ k1
   obtain ⟨f1, f2⟩ := rN (i * k) (ev o).cells.toList 0 cs (by simp; omega)
   let cs1 : Array Value := ((ev o).cells.toList.zipIdx 0).foldl (fun cs (c, j) => cs.setIfInBounds (i * k + j) c) cs
   have hcs1 : (ev o).cells.zipIdx.foldl (fun cs (c, j) => cs.setIfInBounds (i * k + j) c) cs = cs1 := by
    rw [← Array.foldl_toList]; simp [cs1]
   have hget : ∀ q, cs1.getD q undef = if i * k ≤ q ∧ q < i * k + k then (ev o).cells.getD (q - i * k) undef else cs.getD q undef := by
    intro q
    have := f2 q
    rw [← bn, ← bn cs, ← bn (ev o).cells]
    simp only [List.getD, Array.getElem?_toList]
    rw [show cs1[q]? = _ from this]
    simp only [Array.length_toList, hsz, Nat.add_zero]
    split
    ·simp
    ·rfl
   have hel : ∀ i', i' < n → ((es.set i (ρ s).d).getD i' .any) = if i' = i then (ρ s).d else es.getD i' .any := by
    intro i' hi'
    by_cases e : i' = i
    ·subst e; simp [List.getD, List.getElem?_set, show i' < es.length by omega]
    ·simp [List.getD, List.getElem?_set, show ¬ i = i' by omega, e]
   obtain ⟨cs', r1, r2, r3, r4⟩ := qf hρ hk0 r l (fun p hp => hm p (.tail _ hp)) g2 k4 cs1 (es.set i (ρ s).d) (f1.trans h1) (by simpa using h2) (fun i' hi' => by
    rw [hel i' hi']
    by_cases e : i' = i
    ·subst e
     rw [if_pos rfl]
     refine ⟨k3, fun j hj => ?_⟩
     rw [hget, if_pos (by omega), show i' * k + j - i' * k = j by omega]
     exact c2 j (by omega)
    ·rw [if_neg e]
     refine ⟨(h3 i' hi').1, fun j hj => ?_⟩
     have hne : ¬ (i * k ≤ i' * k + j ∧ i' * k + j < i * k + k) := by
      rcases Nat.lt_or_ge i' i with hlt | hge
      ·have : (i' + 1) * k ≤ i * k := Nat.mul_le_mul_right _ hlt
       rw [Nat.succ_mul] at this; omega
      ·have : (i + 1) * k ≤ i' * k := Nat.mul_le_mul_right _ (by omega)
       rw [Nat.succ_mul] at this; omega
     rw [hget, if_neg hne]
     exact (h3 i' hi').2 j hj)
   refine ⟨cs', ?_, r2, by simpa [iA] using r3, by simpa [iA] using r4⟩
   simp only [List.map_cons, Instr.fill]
   rw [if_neg (by simp [hsz]; omega), hcs1]
   exact r1
  ·cases h
theorem tY {z : Value} {d : D} {k n : Nat} (hz : RD C.ν x z d) (hk : d.cells.length = k) (hk0 : k ≠ 0) :
  ∀ i, i < n → ((List.replicate n d).getD i .any).cells.length = k ∧ ∀ j, j < k → (((Array.range (n * k)).map (z.cells[· % z.cells.size]!)).getD (i * k + j) undef).oneCell' = true ∧ RD C.ν x (((Array.range (n * k)).map (z.cells[· % z.cells.size]!)).getD (i * k + j) undef) (((List.replicate n d).getD i .any).cells.getD j .any) := by
 intro i hi
 obtain ⟨_, c2⟩ := hz.cells (by omega)
 have e : (List.replicate n d).getD i .any = d := by simp [List.getD, hi]
 rw [e]
 refine ⟨hk, fun j hj => ?_⟩
 rw [Aa hz hk hk0 n i j hi hj]
 exact c2 j (by omega)
theorem Fx {o : Oper} {i : aA} {t : TypeId} {n : Nat} {ps : Array (Nat × Operand)} (hc : C.op defs o = some i) (ho : o.op = .buildSlice t n ps) (hρ : qa C defs ρ ev x o.op.operands.toList) (hob : i.cV Γ ρ m) (hs : dm C.ν x f) (hL : x.β L = none) :
  sV C.ν x (eR f (i.wr ρ L) (i.bM Γ ρ m L)) L (i.val Γ ρ m L) ((execOp ev o).run C.P x.w) := by
 simp only [CC.op, ho] at hc
 split at hc
 ·rename_i e hu
  split at hc
  ·rename_i z l hz h1
   split at hc
   ·cases hc
   rename_i hce
   simp only [Option.some.injEq] at hc
   subst hc
   obtain ⟨k1, k2⟩ := hob
   obtain ⟨ti, v, hi, hzv, hr⟩ := ng (x := x) hz
   have hce0 : C.P.cellsOf e ≠ 0 := fun h => hce (.inl h)
   have hsz : ti.size = C.P.cellsOf e := by simp [Program.cellsOf, hi]
   have hsmall : ¬ n * ti.size > 2 ^ 24 := fun h => hce (.inr (by rw [hsz] at h; simpa using h))
   obtain ⟨cs', r1, r2, r3, r4⟩ := qf hρ hce0 ps.toList l (fun p hp => by simp only [ho, Op.operands, List.mem_map]; exact ⟨p, hp, rfl⟩) h1 k2 ((Array.range (n * C.P.cellsOf e)).map (v.cells[· % v.cells.size]!)) (List.replicate n z) (by simp) (by simp) (tY hr k1 hce0)
   have hgrow := dM.alloc x.w (.cells cs' e)
   have hle := uU (tot := n) hs hgrow hL
   have he : (aA.bsl (C.P.cellsOf e) z n l).bM Γ ρ m L = cw m L (bm.buf (C.P.cellsOf e) (iA ρ (List.replicate n z) l)) := rfl
   rw [he]
   have hrun : (Instr.buildSlice t n (ps.map fun (i, x) => (i, ev x))).run C.P x.w = .ok (.slice (some ⟨x.w.heap.size, 0, none⟩) n n) (x.w.alloc (.cells cs' e)) := by
    by_cases hn : n = 0
    ·subst hn
     have hcs0 : cs' = #[] := Array.eq_empty_of_size_eq_zero (by simpa using r2)
     have hps : ps.toList = [] := by
      cases hp : ps.toList with
      | nil => rfl
      | cons q r =>
       rw [hp] at h1
       obtain ⟨i0, o0⟩ := q
       simp only [CC.pR] at h1
       split at h1
       ·rename_i s' l' _ _
        simp only [Option.some.injEq] at h1
        subst h1
        simp [nS] at k2
       ·cases h1
     have hps' : ps = #[] := by apply Array.ext'; simpa using hps
     subst hps'
     simp [Instr.buildSlice, run_underlying hu, sizeOf, typeInfo, hi, Instr.fill, newRow, hcs0, show Array.range 0 = #[] from rfl]
    ·refine run_buildSlice x.w t e n _ cs' ti v hu hi hzv hsmall ?_ ?_
     ·rw [hsz]; intro h0; rcases Nat.mul_eq_zero.1 h0 with h | h
      ·exact hn h
      ·exact hce0 h
     ·rw [hsz, Array.toList_map]; exact r1
   refine kQ (v := .slice (some ⟨x.w.heap.size, 0, none⟩) n n) (tot := n) (blk := bm.buf (C.P.cellsOf e) (iA ρ (List.replicate n z) l)) hs hL hgrow (by simp) ?_ ?_ ?_ (qO f m L _)
   ·exact ou (w' := x.w) (L := L) _ (cM x.w _) (by omega) (by omega) (by omega) (fun o' _ => by simp) (fun i hi => ⟨(r4 i (by omega)).1, fun j hj => ⟨((r4 i (by omega)).2 j hj).1, ((r4 i (by omega)).2 j hj).2.mono hle⟩⟩)
   ·exact .own L (C.P.cellsOf e) 0 n x.w.heap.size 0 n n ⟨x.w.heap.size, 0, none⟩ (by simp [cG]) (fun _ => by simp) (Nat.le_refl _) (by have : n * 1 ≤ n * C.P.cellsOf e := Nat.mul_le_mul_left _ (by omega); have h3 : ¬ n * C.P.cellsOf e > 16777216 := fun h => hce (.inr h); simp only [maxLen]; omega) (by omega)
   ·simp only [execOp, ho, Sem.run_bind, hrun, Result.andThen_ok, Sem.run_pure]
  ·cases hc
 ·cases hc
theorem Fy {o : Oper} {i : aA} {t : TypeId} {p q : Operand} (hc : C.op defs o = some i) (ho : o.op = .makeSlice t p q) (hρ : qa C defs ρ ev x o.op.operands.toList) (hob : i.cV Γ ρ m) (hs : dm C.ν x f) (hL : x.β L = none) :
  sV C.ν x (eR f (i.wr ρ L) (i.bM Γ ρ m L)) L (i.val Γ ρ m L) ((execOp ev o).run C.P x.w) := by
 simp only [CC.op, ho] at hc
 split at hc
 ·rename_i e hu
  split at hc
  ·rename_i z ln cp hz h1 h2
   split at hc
   ·cases hc
   rename_i hce
   simp only [Option.some.injEq] at hc
   subst hc
   obtain ⟨k1, k2, k3, k4⟩ := hob
   have hv := hρ p (by simp [ho, Op.operands, Call.operands]) ln h1 k1
   have hw := hρ q (by simp [ho, Op.operands, Call.operands]) cp h2 k2
   cases hd : (ρ ln).d <;> cases hd2 : (ρ cp).d <;> simp only [hd, hd2] at k4
   rename_i kk n kk' c
   rw [hd] at hv
   rw [hd2] at hw
   obtain ⟨ti, v, hi, hzv, hr⟩ := ng (x := x) hz
   have hce0 : C.P.cellsOf e ≠ 0 := fun h => hce (.inl h)
   have hsz : ti.size = C.P.cellsOf e := by simp [Program.cellsOf, hi]
   have hby : ti.bytes ≤ 65536 := by
    have : ¬ C.P.bytesOf e > 65536 := fun h => hce (.inr h)
    simp [Program.bytesOf, hi] at this; omega
   have hbytes : (ti.bytes : Int) * c ≤ 281474976710656 := by
    have h1 : (ti.bytes : Int) * c ≤ 65536 * c := Int.mul_le_mul_of_nonneg_right (by omega) (by omega)
    have h2 : (65536 : Int) * c ≤ 65536 * 1073741824 := Int.mul_le_mul_of_nonneg_left (by omega) (by omega)
    omega
   have hrun := run_make (P := C.P) x.w t e ti v hu hi hzv kk kk' n c k4.1 k4.2.1 hbytes (by omega)
   rw [hsz] at hrun
   have hgrow := dM.alloc x.w (.cells (madeCells v.cells (c.toNat * C.P.cellsOf e)) e)
   have hle := uU (tot := c.toNat) hs hgrow hL
   have hrep := tY (n := c.toNat) hr k3 hce0
   have hms : (madeCells v.cells (c.toNat * C.P.cellsOf e)).size = c.toNat * C.P.cellsOf e := size_madeCells _ _
   have he : (aA.mks (C.P.cellsOf e) z ln cp).bM Γ ρ m L = cw m L (.buf (C.P.cellsOf e) (List.replicate n.toNat z)) := by simp [aA.bM, hd, D.nat]
   rw [he]
   refine kQ (v := .slice (some ⟨x.w.heap.size, 0, none⟩) n.toNat c.toNat) (tot := c.toNat) (blk := .buf (C.P.cellsOf e) (List.replicate n.toNat z)) hs hL hgrow (by simp) ?_ ?_ ?_ (qO f m L _)
   ·refine ou (w' := x.w) (L := L) _ (cM x.w _) (by omega) (by simp; omega) (by omega) (fun o' _ => by simp) (fun i hi => ?_)
    simp only [List.length_replicate] at hi
    have := hrep i (by omega)
    have e1 : (List.replicate n.toNat z).getD i .any = (List.replicate c.toNat z).getD i .any := by simp [List.getD, hi, show i < c.toNat by omega]
    rw [e1]
    refine ⟨this.1, fun j hj => ?_⟩
    have h2 := this.2 j hj
    have e2 : (Array.range (c.toNat * C.P.cellsOf e)).map (v.cells[· % v.cells.size]!) = madeCells v.cells (c.toNat * C.P.cellsOf e) := rfl
    rw [e2] at h2
    exact ⟨h2.1, h2.2.mono hle⟩
   ·simp only [aA.val, hd, D.nat]
    exact .own L _ 0 n.toNat x.w.heap.size 0 c.toNat c.toNat ⟨x.w.heap.size, 0, none⟩ (by simp [cG]) (fun _ => by simp) (by omega) (by simp only [maxLen]; omega) (by omega)
   ·simp only [execOp, ho, hv.cx, hw.cx, Sem.run_bind, hrun, Result.andThen_ok, Sem.run_pure]
  ·cases hc
 ·cases hc
end
end Go.Abs
end
section
namespace Go.Abs
variable [cd]
section
variable {x : X} {f : Nat → Option bm} {C : CC} {defs : List (Option Nat)} {ρ : Src → aN} {ev : Operand → Value} {Γ : Ctx} {m : List (Nat × bm)} {L : Nat}
theorem flat_get (n k : Nat) (g : Nat → Nat → Value) (i j : Nat) (hi : i < n) (hj : j < k) : ((List.range (n * k)).map fun q => g (q / k) (q % k)).getD (i * k + j) undef = g i j := by
 have hlt := eO hi hj
 have h1 : (i * k + j) / k = i := by rw [Nat.mul_comm, Nat.mul_add_div (by omega), Nat.div_eq_of_lt hj]; omega
 have h2 : (i * k + j) % k = j := by rw [Nat.mul_comm, Nat.mul_add_mod]; exact Nat.mod_eq_of_lt hj
 simp [List.getD, hlt, h1, h2]
theorem FL {u : TypeId} {k : Nat} (hk0 : k ≠ 0) (hkind : (∃ e', C.P.underlying u = some (.slice e')) ∨ C.P.underlying u = some .string) {v : Value} {d : D} (hv : RD C.ν x v d) (hd : uM m k d) (hs : dm C.ν x f) (hag : ∀ l, l ∈ bW d → f l = look m l) :
  ∃ news, Go.Src C.P k u v (lI m d).length news x.w ∧ ∀ i, i < (lI m d).length → ((lI m d).getD i .any).cells.length = k ∧ ∀ j, j < k →
   RD C.ν x (news.getD (i * k + j) undef) (((lI m d).getD i .any).cells.getD j .any) := by
 have nothing : ∀ (a : Option Addr) (c : Nat), Go.Src C.P k u (.slice a 0 c) 0 [] x.w := by
  intro a c
  have hf : ∀ w' : World, (Builtin.firstCells k 0 (.slice a 0 c)).run C.P w' = .ok #[] w' := by
   intro w'; cases a <;> simp [Builtin.firstCells, loadCells, loadCellsFrom]
  exact ⟨hkind, fun _ => rfl, hf _, hf _, by simp, fun _ h => by cases h⟩
 have some_ : ∀ (b off n cap : Nat) (g : Nat → Nat → Value), (∀ i j, i < n → j < k → x.w.cell? ⟨b, off + i * k + j, none⟩ = some (g i j) ∧ (g i j).oneCell' = true) →
   Go.Src C.P k u (.slice (some ⟨b, off, none⟩) n cap) n ((List.range (n * k)).map fun q => g (q / k) (q % k)) x.w := by
  intro b off n cap g hg
  have hqd : ∀ q, q < n * k → q / k < n ∧ q % k < k ∧ q / k * k + q % k = q := fun q hq =>
   ⟨Nat.div_lt_of_lt_mul (by rw [Nat.mul_comm]; exact hq), Nat.mod_lt _ (by omega), by rw [Nat.mul_comm]; exact Nat.div_add_mod q k⟩
  have hcell : ∀ j u', ((List.range (n * k)).map fun q => g (q / k) (q % k))[j]? = some u' → x.w.cell? ((⟨b, off, none⟩ : Addr).add j) = some u' := by
   intro j u' hj
   obtain ⟨hj2, rfl⟩ := List.getElem?_eq_some_iff.1 hj
   simp at hj2
   obtain ⟨h1, h2, h3⟩ := hqd j hj2
   rw [Addr.qB]
   simp only [List.getElem_map, List.getElem_range]
   rw [← (hg _ _ h1 h2).1]
   congr 2; omega
  refine ⟨hkind, fun _ => rfl, run_firstCells_some x.w k n _ n cap _ (by simp) hcell, run_firstCells_some x.w.drew k n _ n cap _ (by simp) (by simpa using hcell), by simp, fun u' hu' => ?_⟩
  obtain ⟨q, hq, rfl⟩ := List.mem_map.1 hu'
  obtain ⟨h1, h2, _⟩ := hqd q (by simpa using hq)
  exact (hg _ _ h1 h2).2
 cases d <;> simp only [uM] at hd
 ·
  rename_i s
  obtain ⟨rfl, h2⟩ := hv.fj
  subst hd
  have hsz : (⟨⟨s⟩⟩ : ByteArray).size = s.length := rfl
  refine ⟨byteCells ⟨⟨s⟩⟩, ?_, fun i hi => ?_⟩
  ·have : (lI m (.str s)).length = (⟨⟨s⟩⟩ : ByteArray).size := by simp [lI, hsz]
   rw [this]
   exact ⟨hkind, fun _ => rfl, firstCells_string _ _, firstCells_string _ _, by rw [byteCells_length, Nat.mul_one], fun u' hu' => by
    obtain ⟨_, _, rfl⟩ := List.mem_map.1 hu'
    rfl⟩
  ·have hi' : i < s.length := by simpa [lI] using hi
   have e : (lI m (.str s)).getD i .any = .int .u8 (s.getD i 0).toNat := by simp [lI, List.getD, hi']
   rw [e]
   refine ⟨rfl, fun j hj => ?_⟩
   obtain rfl : j = 0 := by omega
   have e2 : (byteCells ⟨⟨s⟩⟩).getD (i * 1 + 0) undef = .int .u8 (s.getD i 0).toNat := by simp [byteCells, List.getD, hi']
   rw [e2]
   exact .int _ _
 ·cases hv
  exact ⟨[], nothing none 0, fun i hi => by simp [lI] at hi⟩
 ·rename_i k' es
  subst hd
  cases hv with
  | sl a b off len cap _ _ c hlen ha hcap hm hk hn hcc hone hh =>
   subst hlen
   rcases ha with rfl | ⟨rfl, hI⟩
   ·exact ⟨[], by simpa [lI] using nothing a cap, fun i hi => by simp [lI] at hi⟩
   ·refine ⟨_, some_ b off es.length cap c (fun i j hi hj => ⟨hcc i j hi hj, hone i j hi hj⟩), fun i hi => ⟨hk i hi, fun j hj => ?_⟩⟩
    rw [flat_get es.length k' c i j hi hj]
    exact hh i j hi hj
 ·rename_i l k' i0 n
  obtain ⟨rfl, hb⟩ := hd
  cases hv with
  | own0 => exact ⟨[], by simpa [lI] using nothing none 0, fun i hi => by simp [lI] at hi⟩
  | own _ _ _ _ b base tot cap aa hβ ha hcap hm ht =>
   obtain ⟨g1, g2, g3⟩ := nJ hs (hag l (by simp [bW])) hb
   obtain ⟨hnI, hk0', ht', c, T, fr, q1, q2, q3, q4⟩ := hs.own l _ b base tot g1 hβ
   have hlen : (lI m (.own l k' i0 n)).length = n := by simp only [lI]; exact eH _ _ _ g2
   rw [hlen]
   by_cases hn0 : n = 0
   ·subst hn0
    exact ⟨[], nothing _ _, fun i hi => by omega⟩
   ·have ha' := ha (by omega)
    subst ha'
    have hg : ∀ i, i < n → (lI m (.own l k' i0 n)).getD i .any = (aE m l).getD (i0 + i) .any := fun i hi => by simp only [lI]; exact cR _ _ _ _ _ hi
    refine ⟨_, some_ b (base + i0 * k') n cap (fun i j => c.getD (base + (i0 + i) * k' + j) undef) (fun i j hi hj => ?_), fun i hi => ?_⟩
    ·have h1 := eO (tot := tot) (show i0 + i < tot by omega) hj
     refine ⟨?_, ((q4 (i0 + i) (by omega)).2 j hj).1⟩
     rw [← cell_of_heap q1 (by omega : base + (i0 + i) * k' + j < c.size)]
     congr 2; rw [Nat.add_mul]; omega
    ·rw [hg i hi]
     refine ⟨(q4 (i0 + i) (by omega)).1, fun j hj => ?_⟩
     rw [flat_get n k' (fun i j => c.getD (base + (i0 + i) * k' + j) undef) i j hi hj]
     exact ((q4 (i0 + i) (by omega)).2 j hj).2
theorem bT {α : Type} (a b : List α) (i : Nat) (d : α) : (a ++ b).getD i d = if i < a.length then a.getD i d else b.getD (i - a.length) d := by
 simp only [List.getD, List.getElem?_append]; split <;> rfl
theorem zE {k n mm cap : Nat} {T : TypeId} {olds news : List Value} {zs : Array Value} {es1 es2 : List D} (x' : X) (b : Nat) (hk0 : k ≠ 0)
  (hlo : olds.length = n * k) (hln : news.length = mm * k) (h1 : es1.length = n) (h2 : es2.length = mm) (hcap : n + mm ≤ cap) (hzs : zs.size = (cap - (n + mm)) * k)
  (hx : x'.w.heap[b]? = some (.cells ((olds ++ news).toArray ++ zs) T (0, 0)))
  (ho : ∀ i, i < n → (es1.getD i .any).cells.length = k ∧ ∀ j, j < k → (olds.getD (i * k + j) undef).oneCell' = true ∧ RD C.ν x' (olds.getD (i * k + j) undef) ((es1.getD i .any).cells.getD j .any))
  (hn : ∀ i, i < mm → (es2.getD i .any).cells.length = k ∧ ∀ j, j < k → (news.getD (i * k + j) undef).oneCell' = true ∧ RD C.ν x' (news.getD (i * k + j) undef) ((es2.getD i .any).cells.getD j .any)) :
  j7 C.ν x' b 0 cap (.buf k (es1 ++ es2)) := by
 have hsz : ((olds ++ news).toArray ++ zs).size = cap * k := by
  simp only [Array.size_append, List.size_toArray, List.length_append, hlo, hln, hzs, ← Nat.add_mul]
  congr 1; omega
 refine ou (w' := x'.w) (L := 0) x' hx (by omega) (by simp; omega) (by omega) (fun o _ => by simp) (fun i hi => ?_)
 simp only [List.length_append, h1, h2] at hi
 have hge : ∀ j, j < k → (((olds ++ news).toArray ++ zs).getD (i * k + j) undef) = (olds ++ news).getD (i * k + j) undef := by
  intro j hj
  have := eO hi hj
  rw [Nat.add_mul] at this
  rw [← bn]
  simp only [Array.toList_append]
  rw [bT, if_pos (by simp; omega)]
 rw [bT]
 by_cases h : i < n
 ·rw [if_pos (by omega)]
  refine ⟨(ho i h).1, fun j hj => ?_⟩
  rw [hge j hj, bT, if_pos (by have := eO h hj; omega)]
  exact (ho i h).2 j hj
 ·rw [if_neg (by omega), h1]
  refine ⟨(hn (i - n) (by omega)).1, fun j hj => ?_⟩
  have hnk : n * k ≤ i * k := Nat.mul_le_mul_right _ (by omega)
  rw [hge j hj, bT, if_neg (by omega), show i * k + j - olds.length = (i - n) * k + j by rw [hlo, Nat.sub_mul]; omega]
  exact (hn (i - n) (by omega)).2 j hj
theorem Bq {news : List Value} (h : ∀ u ∈ news, u.oneCell' = true) (q : Nat) (hq : q < news.length) : (news.getD q undef).oneCell' = true := by
 rw [jE _ _ _ hq]; exact h _ (List.getElem_mem _)
theorem dm.less {f f' : Nat → Option bm} {ν : List (Nat × Nat)} (h : dm ν x f) (hf : ∀ l, f' l = f l ∨ f' l = none ∨ x.β l = none) : dm ν x f' := by
 refine ⟨fun l blk b base tot e1 e2 => ?_, fun l1 l2 b base tot base' tot' e1 e2 e3 e4 => ?_, h.imm, h.cT, h.gd⟩
 ·rcases hf l with e | e | e
  ·exact h.own l blk b base tot (e ▸ e1) e2
  ·rw [e] at e1; cases e1
  ·rw [e] at e2; cases e2
 ·refine h.inj l1 l2 b base tot base' tot' ?_ ?_ e3 e4
  ·rcases hf l1 with e | e | e
   ·rwa [← e]
   ·exact absurd e e1
   ·rw [e] at e3; cases e3
  ·rcases hf l2 with e | e | e
   ·rwa [← e]
   ·exact absurd e e2
   ·rw [e] at e4; cases e4
theorem vI {f' : Nat → Option bm} {t u ty e : TypeId} {ti : TypeInfo} {z : Value} {k : Nat} {base : Option Addr} {sLen sCap mm : Nat} {olds news : List Value} {xv : Value} {es1 E : List D}
  (hs : dm C.ν x f) (hL : x.β L = none) (ht : C.P.underlying t = some (.slice e)) (hi : C.P.info? e = some ti) (hz : ti.zero = some z) (hzd : z.cells.size = ti.size) (hk : ti.size = k) (hk0 : k ≠ 0) (hby : ti.bytes ≤ 65536)
  (hold : (Builtin.firstCells k sLen (.slice base sLen sCap)).run C.P x.w.drew = .ok olds.toArray x.w.drew) (hol : olds.length = sLen * k) (h1 : es1.length = sLen) (h2 : E.length = mm)
  (ho : ∀ i, i < sLen → (es1.getD i .any).cells.length = k ∧ ∀ j, j < k → (olds.getD (i * k + j) undef).oneCell' = true ∧ RD C.ν x (olds.getD (i * k + j) undef) ((es1.getD i .any).cells.getD j .any))
  (hsrc : Go.Src C.P k u xv mm news x.w) (hn : ∀ i, i < mm → (E.getD i .any).cells.length = k ∧ ∀ j, j < k → RD C.ν x (news.getD (i * k + j) undef) ((E.getD i .any).cells.getD j .any))
  (hg : sCap < sLen + mm) (hle : sLen + mm ≤ 1073741824) (hf : ∀ l, l ≠ L → f' l = f l ∨ f' l = none) (hfL : f' L = some (.buf k (es1 ++ E)))
  {r : Result Next} (hr : r = ((Builtin.append_ #[t, u] ty #[.slice base sLen sCap, xv]).run C.P x.w).andThen fun v w' => .ok (.value v) w') :
  sV C.ν x f' L (.own L k 0 (sLen + mm)) r := by
 subst hk
 have hfit := growslice_fits_wide (need := sLen + mm) (old := sCap) (bytes := ti.bytes) hg (by
  have : (sLen + mm + (sLen + mm) / 4 + 192) * ti.bytes ≤ (sLen + mm + (sLen + mm) / 4 + 192) * 65536 := Nat.mul_le_mul_left _ hby
  omega)
 have hrun := run_append_grow_src x.w t u ty e ti z ht hi hz base sLen sCap olds hold xv mm news hsrc hg (by omega) hfit
 have hcge := grownCap_ge x.w (sLen + mm) sCap e
 have hcle := grownCap_le_maxLen x.w (sLen + mm) sCap e (by simp only [maxLen]; omega)
 generalize grownCap x.w (sLen + mm) sCap e = cap at hrun hcge hcle
 have hgrow : dM x.w (x.w.drew.alloc (.cells ((olds ++ news).toArray ++ Builtin.zeroCells z.cells (cap - (sLen + mm))) e)) := by
  refine ⟨rfl, rfl, rfl, ?_, fun b hb => ?_⟩
  ·have := (dM.alloc x.w.drew (.cells ((olds ++ news).toArray ++ Builtin.zeroCells z.cells (cap - (sLen + mm))) e)).size
   exact this
  ·exact gT x.w.drew _ b hb
 have hlex := uU (tot := cap) hs hgrow hL
 have hs' : dm C.ν x (fun l => if f' l = none then none else f l) := hs.less (fun l => by
  by_cases h : f' l = none
  ·right; left; simp [h]
  ·left; simp [h])
 refine kQ (f := fun l => if f' l = none then none else f l) (v := .slice (some ⟨x.w.heap.size, 0, none⟩) (sLen + mm) cap) (tot := cap) (blk := .buf ti.size (es1 ++ E)) hs' hL hgrow ?_ ?_ ?_ ?_ (fun l => ?_)
 ·show x.w.heap.size < (x.w.drew.heap.push _).size
  rw [Array.size_push]; exact Nat.lt_succ_self _
 ·exact zE (n := sLen) (mm := mm) (olds := olds) (news := news) (T := e) (zs := Builtin.zeroCells z.cells (cap - (sLen + mm))) _ _ hk0 hol hsrc.newsLen h1 h2 hcge
   (by rw [size_zeroCells, hzd]) (cM x.w.drew _)
   (fun i hi => ⟨(ho i hi).1, fun j hj => ⟨((ho i hi).2 j hj).1, ((ho i hi).2 j hj).2.mono hlex⟩⟩)
   (fun i hi => ⟨(hn i hi).1, fun j hj => ⟨Bq hsrc.one _ (by rw [hsrc.newsLen]; exact eO hi hj), ((hn i hi).2 j hj).mono hlex⟩⟩)
 ·exact .own L _ 0 (sLen + mm) x.w.heap.size 0 cap cap ⟨x.w.heap.size, 0, none⟩ (by simp [cG]) (fun _ => by simp) hcge hcle (by omega)
 ·rw [hr, hrun]; rfl
 ·by_cases e : l = L
  ·subst e; simp [gB, hfL]
  ·simp only [gB, e, if_false]
   rcases hf l e with h | h
   ·by_cases h' : f' l = none
    ·rw [if_pos h']; exact h'
    ·rw [if_neg h']; exact h
   ·rw [if_pos h]; exact h
theorem vJ {t u ty e : TypeId} {k : Nat} {ti : TypeInfo} {a : Addr} {sLen sCap : Nat} {xv : Value} (ht : C.P.underlying t = some (.slice e)) (hi : C.P.info? e = some ti) (hk : ti.size = k) (hsrc : Go.Src C.P k u xv 0 [] x.w) (hc : sLen ≤ sCap) :
  (Builtin.append_ #[t, u] ty #[.slice (some a) sLen sCap, xv]).run C.P x.w = .ok (.slice (some a) sLen sCap) x.w := by
 subst hk
 rcases hsrc.kind with ⟨e', hk⟩ | hk <;> simp [Builtin.append_, run_underlying ht, run_underlying hk, sizeOf, typeInfo, hi, hsrc.len, hc, hsrc.cells, storeCells]
theorem uD {t u ty e : TypeId} {k : Nat} {ti : TypeInfo} {xv : Value} (ht : C.P.underlying t = some (.slice e)) (hi : C.P.info? e = some ti) (hk : ti.size = k) (hsrc : Go.Src C.P k u xv 0 [] x.w) :
  (Builtin.append_ #[t, u] ty #[.slice none 0 0, xv]).run C.P x.w = .ok (.slice none 0 0) x.w := by
 subst hk
 rcases hsrc.kind with ⟨e', hk⟩ | hk <;> simp [Builtin.append_, run_underlying ht, run_underlying hk, sizeOf, typeInfo, hi, hsrc.len, hsrc.cells, storeCells]
theorem Fv {o : Oper} {i : aA} {p q : Operand} {t u : TypeId} (hc : C.op defs o = some i) (ho : o.op = .call { callee := .builtin .append, args := #[p, q], argTypes := #[t, u] }) (hρ : qa C defs ρ ev x o.op.operands.toList) (hob : i.cV Γ ρ m) (hs : dm C.ν x f) (hag : vx f m (i.ki ρ)) (hL : x.β L = none) :
  sV C.ν x (eR f (i.wr ρ L) (i.bM Γ ρ m L)) L (i.val Γ ρ m L) ((execOp ev o).run C.P x.w) := by
 have hcc : ∃ a b e, C.src defs p = some a ∧ C.src defs q = some b ∧ C.P.underlying t = some (.slice e) ∧ ((∃ e', C.P.underlying u = some (.slice e')) ∨ C.P.underlying u = some .string) ∧
   ¬ (C.P.cellsOf e = 0 ∨ C.P.bytesOf e > 65536 ∨ C.P.bytesOf e = 0 ∨ kK C.P e = false) ∧ i = .app (C.P.cellsOf e) a b := by
  simp only [CC.op, ho] at hc
  split at hc
  ·rename_i a b e e' h1 h2 h3 h4
   split at hc
   ·cases hc
   ·rename_i hn
    simp only [Option.some.injEq] at hc
    exact ⟨a, b, e, h1, h2, h3, .inl ⟨_, h4⟩, hn, hc.symm⟩
  ·rename_i a b e h1 h2 h3 h4
   split at hc
   ·cases hc
   ·rename_i hn
    simp only [Option.some.injEq] at hc
    exact ⟨a, b, e, h1, h2, h3, .inr h4, hn, hc.symm⟩
  ·cases hc
 obtain ⟨a, b, e, h1, h2, hu, hu2, hn, rfl⟩ := hcc
 have hce : C.P.cellsOf e ≠ 0 := fun h => hn (.inl h)
 obtain ⟨ti, hti, htis⟩ := kd hce
 have hby : ti.bytes ≤ 65536 := by
  have : ¬ C.P.bytesOf e > 65536 := fun h => hn (.inr (.inl h))
  simp [Program.bytesOf, hti] at this; omega
 obtain ⟨z, hz, hzl⟩ : ∃ z, nF C.P e = some z ∧ z.cells.length = C.P.cellsOf e := by
  have hzf : kK C.P e = true := by
   cases h : kK C.P e
   ·exact absurd (.inr (.inr (.inr h))) hn
   ·rfl
  unfold kK at hzf
  split at hzf
  ·rename_i z hz; exact ⟨z, hz, by simpa using hzf⟩
  ·cases hzf
 obtain ⟨ti', z', hti', hzv, hzr⟩ := ng (x := x) hz
 obtain rfl : ti' = ti := by rw [hti] at hti'; exact (Option.some.inj hti').symm
 obtain ⟨k1, k2, k3, k4⟩ := hob
 have hv := hρ p (by simp [ho, Op.operands, Call.operands]) a h1 k1
 have hw := hρ q (by simp [ho, Op.operands, Call.operands]) b h2 k2
 have hag2 : ∀ l, l ∈ bW (ρ b).d → f l = look m l := fun l hl => hag l (by simp; exact .inr hl)
 have hag1 : ∀ l, l ∈ bW (ρ a).d → f l = look m l := fun l hl => hag l (by simp; exact .inl hl)
 obtain ⟨news, hsrc, hnews⟩ := FL (u := u) hce (hu2.imp (fun ⟨e', h⟩ => ⟨e', h⟩) id) hw k3 hs hag2
 have hsz : z'.cells.size = ti'.size := by have := (hzr.cells (by omega)).1; omega
 have hr : (execOp ev o).run C.P x.w = ((Builtin.append_ #[t, u] o.type #[ev p, ev q]).run C.P x.w).andThen fun v w' => .ok (.value v) w' := by
  simp [execOp, ho, resolve, invoke, builtin]
 generalize hels : lI m (ρ b).d = E at *
 generalize hep : ev p = vp at *

 have nobase : ∀ (l0 : List Nat) (f' : Nat → Option bm), vp = .slice none 0 0 → E.length ≤ 1073741824 → (∀ l, l ≠ L → f' l = f l ∨ f' l = none) → f' L = some (.buf (C.P.cellsOf e) E) →
   sV C.ν x f' L (.own L (C.P.cellsOf e) 0 E.length) ((execOp ev o).run C.P x.w) := by
  intro _ f' hvp hle hf hfL
  subst hvp
  by_cases hm0 : E.length = 0
  ·have hn0 : news = [] := List.eq_nil_of_length_eq_zero (by rw [hsrc.newsLen, hm0]; simp)
   rw [hm0] at hsrc ⊢
   subst hn0
   rw [hr, uD hu hti htis hsrc]
   refine ⟨.slice none 0 0, x, .inl rfl, .refl x, .own0 L _ 0, hs.less fun l => ?_, fun _ _ => rfl⟩
   by_cases e : l = L
   ·subst e; exact .inr (.inr hL)
   ·rcases hf l e with h | h
    ·exact .inl h
    ·exact .inr (.inl h)
  ·have := vI (f' := f') (base := none) (sLen := 0) (sCap := 0) (olds := []) (es1 := []) (E := E) (mm := E.length) hs hL hu hti hzv hsz htis hce hby
    (by simp [Builtin.firstCells, loadCells, loadCellsFrom]) (by simp) rfl rfl (fun i hi => by omega) hsrc hnews (by omega) (by omega) hf (by simpa using hfL) hr
   simpa using this
 cases hd : (ρ a).d <;> simp only [hd] at k4
 ·
  have he : (aA.app (C.P.cellsOf e) a b).bM Γ ρ m L = cw m L (.buf (C.P.cellsOf e) E) := by simp [aA.bM, hd, hels]
  have hva : (aA.app (C.P.cellsOf e) a b).val Γ ρ m L = .own L (C.P.cellsOf e) 0 E.length := by simp [aA.val, hd, hels]
  have hwr : (aA.app (C.P.cellsOf e) a b).wr ρ L = [L] := by simp [aA.wr, hd, bW]
  rw [he, hva, hwr]
  rw [hd] at hv
  cases hv
  exact nobase [] _ rfl k4 (fun l hl => .inl (by simp [eR, hl])) (by simp [eR, bt])
 ·rename_i l k' i n
  obtain ⟨rfl, hbk, hle⟩ := k4
  rw [hd] at hv
  have he : (aA.app (C.P.cellsOf e) a b).bM Γ ρ m L = cw (cg m l) L (.buf (C.P.cellsOf e) ((((aE m l).drop i).take n) ++ E)) := by simp [aA.bM, hd, hels]
  have hva : (aA.app (C.P.cellsOf e) a b).val Γ ρ m L = .own L (C.P.cellsOf e) 0 (n + E.length) := by simp [aA.val, hd, hels]
  have hwr : (aA.app (C.P.cellsOf e) a b).wr ρ L = [L, l] := by simp [aA.wr, hd, bW]
  rw [he, hva, hwr]
  have hff : ∀ l', l' ≠ L → eR f [L, l] (cw (cg m l) L (.buf (C.P.cellsOf e) ((((aE m l).drop i).take n) ++ E))) l' = if l' = l then none else f l' := by
   intro l' hl'
   by_cases e1 : l' = l
   ·subst e1; simp [eR, bt, dJ, hl']
   ·simp [eR, hl', e1]
  have hffL : eR f [L, l] (cw (cg m l) L (.buf (C.P.cellsOf e) ((((aE m l).drop i).take n) ++ E))) L = some (.buf (C.P.cellsOf e) ((((aE m l).drop i).take n) ++ E)) := by simp [eR, bt]
  have hff' : ∀ l', l' ≠ L → eR f [L, l] (cw (cg m l) L (.buf (C.P.cellsOf e) ((((aE m l).drop i).take n) ++ E))) l' = f l' ∨ eR f [L, l] (cw (cg m l) L (.buf (C.P.cellsOf e) ((((aE m l).drop i).take n) ++ E))) l' = none := by
   intro l' hl'
   rw [hff l' hl']
   by_cases e1 : l' = l
   ·rw [if_pos e1]; exact .inr rfl
   ·rw [if_neg e1]; exact .inl rfl
  cases hv with
  | own0 =>
   have := nobase [] (eR f [L, l] (cw (cg m l) L (.buf (C.P.cellsOf e) ((((aE m l).drop i).take 0) ++ E)))) rfl (by omega) hff' (by simpa using hffL)
   simpa using this
  | own _ _ _ _ bk base tot cap ad hβ ha hcap hm ht =>
   obtain ⟨g1, g2, g3⟩ := nJ hs (hag1 l (by simp [hd, bW])) hbk
   obtain ⟨hnI, hk0', ht', c, T, fr, q1, q2, q3, q4⟩ := hs.own l _ bk base tot g1 hβ
   have hlen1 : (((aE m l).drop i).take n).length = n := eH _ _ _ g2
   have hgt : ∀ j, j < n → (((aE m l).drop i).take n).getD j .any = (aE m l).getD (i + j) .any := fun j hj => cR _ _ _ _ _ hj
   by_cases hroom : n + E.length ≤ cap
   ·
    have hcsz : base + i * C.P.cellsOf e + cap * C.P.cellsOf e ≤ c.size := by
     have : i * C.P.cellsOf e + cap * C.P.cellsOf e ≤ tot * C.P.cellsOf e := by rw [← Nat.add_mul]; exact Nat.mul_le_mul_right _ (by omega)
     omega
    have hnc : n * C.P.cellsOf e + news.length ≤ cap * C.P.cellsOf e := by rw [hsrc.newsLen, ← Nat.add_mul]; exact Nat.mul_le_mul_right _ hroom
    have hrun : (Builtin.append_ #[t, u] o.type #[.slice (some ad) n cap, ev q]).run C.P x.w = .ok (.slice (some ad) (n + E.length) cap) (x.w.setCells bk (base + i * C.P.cellsOf e + n * C.P.cellsOf e) news) := by
     by_cases hc0 : cap = 0
     ·have hm0 : E.length = 0 := by omega
      have hn0 : news = [] := List.eq_nil_of_length_eq_zero (by rw [hsrc.newsLen, hm0]; simp)
      subst hn0
      rw [hm0] at hsrc ⊢
      rw [vJ hu hti htis hsrc hcap]
      rfl
     ·have ha' := ha (by omega)
      subst ha'
      have := run_append_room_src x.w t u o.type e ti' hu hti bk (base + i * C.P.cellsOf e) n cap (ev q) E.length news (by rw [htis]; exact hsrc) hroom
       (fun j hj => by rw [htis, cell_of_heap q1 (by omega)]; rfl)
       (fun j hj => by
         rw [htis]
         have := q3 (base + i * C.P.cellsOf e + n * C.P.cellsOf e + j) (by omega)
         simp only [World.frozen?, q1]
         simp only [Bool.and_eq_false_iff, decide_eq_false_iff_not]
         omega)
      rw [htis] at this
      exact this
    obtain ⟨c', s1, s2, s3⟩ := gW bk news (base + i * C.P.cellsOf e + n * C.P.cellsOf e) x.w c T fr q1 (by omega)
    obtain ⟨f1, f2, f3, f4⟩ := gp bk news (base + i * C.P.cellsOf e + n * C.P.cellsOf e) x.w
    generalize hw' : x.w.setCells bk (base + i * C.P.cellsOf e + n * C.P.cellsOf e) news = w' at *
    have hother : ∀ b', b' ≠ bk → w'.heap[b']? = x.w.heap[b']? := fun b' hb' => by rw [← hw']; exact gr bk _ _ _ b' hb'
    have hlL : l ≠ L := fun e1 => by subst e1; rw [hβ] at hL; cases hL
    have hstep : Step x ⟨w', x.I, cG x.β L (bk, base + i * C.P.cellsOf e, cap)⟩ := by
     refine ⟨f1, f2, f3, by show _ ≤ w'.heap.size; rw [f4]; exact Nat.le_refl _, fun _ h => h, fun b' hb' => hother b' (fun e1 => hnI (e1 ▸ hb')), fun l' p' hp => ?_,
      fun b' _ hn' => hother b' (fun e1 => hn' l _ hβ e1.symm), fun _ h => .inl h, fun l' p' hp => ?_⟩
     ·have : l' ≠ L := fun e1 => by rw [e1, hL] at hp; cases hp
      simp [cG, this, hp]
     ·by_cases e1 : l' = L
      ·simp only [cG, e1, if_true, Option.some.injEq] at hp
       exact .inr (.inr ⟨l, _, hβ, by rw [← hp]⟩)
      ·simp only [cG, e1, if_false] at hp
       exact .inl hp
    have hle2 := hstep.le
    rw [hr, hrun]
    refine ⟨_, ⟨w', x.I, cG x.β L (bk, base + i * C.P.cellsOf e, cap)⟩, .inl rfl, hstep,
     .own L _ 0 _ bk (base + i * C.P.cellsOf e) cap cap ad (by simp [cG]) (fun h => by rw [ha h]; simp) hroom hm (by omega), ?_, fun l' hl' => by simp [cG, hl']⟩
    have hblk : j7 C.ν ⟨w', x.I, cG x.β L (bk, base + i * C.P.cellsOf e, cap)⟩ bk (base + i * C.P.cellsOf e) cap (.buf (C.P.cellsOf e) ((((aE m l).drop i).take n) ++ E)) := by
     refine ⟨hk0', by rw [List.length_append, hlen1]; exact hroom, c', T, fr, s1, by omega, fun o'' ho'' => q3 o'' (by omega), fun i' hi' => ?_⟩
     rw [List.length_append, hlen1] at hi'
     rw [bT, hlen1]
     by_cases hi2 : i' < n
     ·rw [if_pos hi2, hgt i' hi2]
      refine ⟨(q4 (i + i') (by omega)).1, fun j hj => ?_⟩
      have hlt := eO hi2 hj
      rw [s3, if_neg (by omega)]
      have := (q4 (i + i') (by omega)).2 j hj
      rw [show base + (i + i') * C.P.cellsOf e + j = base + i * C.P.cellsOf e + i' * C.P.cellsOf e + j by rw [Nat.add_mul]; omega] at this
      exact ⟨this.1, this.2.mono hle2⟩
     ·rw [if_neg hi2]
      obtain ⟨a1, a2⟩ := hnews (i' - n) (by omega)
      refine ⟨a1, fun j hj => ?_⟩
      have hnk : n * C.P.cellsOf e ≤ i' * C.P.cellsOf e := Nat.mul_le_mul_right _ (by omega)
      have hlt := eO (show i' - n < E.length by omega) hj
      rw [← hsrc.newsLen, Nat.sub_mul] at hlt
      rw [s3, if_pos (by omega), show base + i * C.P.cellsOf e + i' * C.P.cellsOf e + j - (base + i * C.P.cellsOf e + n * C.P.cellsOf e) = (i' - n) * C.P.cellsOf e + j by rw [Nat.sub_mul]; omega]
      exact ⟨Bq hsrc.one _ (by rw [Nat.sub_mul]; omega), (a2 j hj).mono hle2⟩
    refine ⟨fun l' blk b' base' tot' e1 e2 => ?_, fun l1 l2 b' base' tot' base'' tot'' e1 e2 e3 e4 => ?_, fun b' hb' => by show b' < w'.heap.size; rw [f4]; exact hs.imm b' hb', fun l' b' base' tot' e1 => ?_, mc hstep.le hs.gd⟩
    ·by_cases h : l' = L
     ·subst h
      rw [hffL] at e1
      simp only [cG, if_true, Option.some.injEq, Prod.mk.injEq] at e2
      obtain ⟨rfl, rfl, rfl⟩ := e2
      obtain rfl := Option.some.inj e1
      exact ⟨hnI, hblk⟩
     ·rw [hff l' h] at e1
      by_cases h2 : l' = l
      ·rw [if_pos h2] at e1; cases e1
      ·rw [if_neg h2] at e1
       simp only [cG, h, if_false] at e2
       obtain ⟨a1, a2⟩ := hs.own l' blk b' base' tot' e1 e2
       refine ⟨a1, a2.mono hle2 (hother b' (fun eb => ?_))⟩
       subst eb
       exact h2 (hs.inj l' l b' base' tot' base tot (by rw [e1]; simp) (by rw [g1]; simp) e2 hβ)
    ·have key : ∀ l1 b1 base1 tot1, l1 ≠ L → eR f [L, l] (cw (cg m l) L (.buf (C.P.cellsOf e) ((((aE m l).drop i).take n) ++ E))) l1 ≠ none → x.β l1 = some (b1, base1, tot1) → b1 ≠ bk ∧ f l1 ≠ none := by
      intro l1 b1 base1 tot1 h1' h2' h3'
      rw [hff l1 h1'] at h2'
      by_cases h : l1 = l
      ·rw [if_pos h] at h2'; exact absurd rfl h2'
      ·rw [if_neg h] at h2'
       refine ⟨fun eb => ?_, h2'⟩
       subst eb
       exact h (hs.inj l1 l b1 base1 tot1 base tot h2' (by rw [g1]; simp) h3' hβ)
     by_cases h1' : l1 = L <;> by_cases h2' : l2 = L
     ·rw [h1', h2']
     ·exfalso
      simp only [cG, h1', if_true, Option.some.injEq, Prod.mk.injEq] at e3
      simp only [cG, h2', if_false] at e4
      exact (key l2 b' _ _ h2' e2 e4).1 e3.1.symm
     ·exfalso
      simp only [cG, h2', if_true, Option.some.injEq, Prod.mk.injEq] at e4
      simp only [cG, h1', if_false] at e3
      exact (key l1 b' _ _ h1' e1 e3).1 e4.1.symm
     ·simp only [cG, h1', if_false] at e3
      simp only [cG, h2', if_false] at e4
      exact hs.inj l1 l2 b' base' tot' base'' tot'' (key l1 b' _ _ h1' e1 e3).2 (key l2 b' _ _ h2' e2 e4).2 e3 e4
    ·show b' < w'.heap.size
     rw [f4]
     by_cases h : l' = L
     ·simp only [cG, h, if_true, Option.some.injEq, Prod.mk.injEq] at e1
      obtain ⟨rfl, _, _⟩ := e1
      exact hs.cT l _ _ _ hβ
     ·simp only [cG, h, if_false] at e1
      exact hs.cT l' _ _ _ e1
   ·
    have hold : ∃ olds : List Value, (Builtin.firstCells (C.P.cellsOf e) n (.slice (some ad) n cap)).run C.P x.w.drew = .ok olds.toArray x.w.drew ∧ olds.length = n * C.P.cellsOf e ∧
      ∀ j, j < n → ∀ j', j' < C.P.cellsOf e → (olds.getD (j * C.P.cellsOf e + j') undef).oneCell' = true ∧ RD C.ν x (olds.getD (j * C.P.cellsOf e + j') undef) (((aE m l).getD (i + j) .any).cells.getD j' .any) := by
     by_cases hn0 : n = 0
     ·subst hn0
      exact ⟨[], by simp [Builtin.firstCells, loadCells, loadCellsFrom], by simp, fun j hj => by omega⟩
     ·have ha' := ha (by omega)
      subst ha'
      have hqd : ∀ q, q < n * C.P.cellsOf e → q / C.P.cellsOf e < n ∧ q % C.P.cellsOf e < C.P.cellsOf e ∧ q / C.P.cellsOf e * C.P.cellsOf e + q % C.P.cellsOf e = q := fun q hq =>
       ⟨Nat.div_lt_of_lt_mul (by rw [Nat.mul_comm]; exact hq), Nat.mod_lt _ (by omega), by rw [Nat.mul_comm]; exact Nat.div_add_mod q _⟩
      have hbase : ∀ q, q < n * C.P.cellsOf e → base + i * C.P.cellsOf e + q < c.size := fun q hq => by
       have : i * C.P.cellsOf e + n * C.P.cellsOf e ≤ tot * C.P.cellsOf e := by rw [← Nat.add_mul]; exact Nat.mul_le_mul_right _ (by omega)
       omega
      refine ⟨(List.range (n * C.P.cellsOf e)).map fun q => c.getD (base + i * C.P.cellsOf e + q) undef, ?_, by simp, fun j hj j' hj' => ?_⟩
      ·refine run_firstCells_some x.w.drew _ n _ n cap _ (by simp) (fun j u' hj => ?_)
       obtain ⟨hj2, rfl⟩ := List.getElem?_eq_some_iff.1 hj
       simp at hj2
       rw [Addr.qB]
       simp only [List.getElem_map, List.getElem_range]
       exact cell_of_heap (w := x.w.drew) q1 (hbase j hj2)
      ·have hlt := eO hj hj'
       have e1 : ((List.range (n * C.P.cellsOf e)).map fun q => c.getD (base + i * C.P.cellsOf e + q) undef).getD (j * C.P.cellsOf e + j') undef = c.getD (base + (i + j) * C.P.cellsOf e + j') undef := by
        simp only [List.getD, List.getElem?_map, List.getElem?_range hlt, Option.map_some, Option.getD_some]
        congr 1; rw [Nat.add_mul]; omega
       rw [e1]
       exact (q4 (i + j) (by omega)).2 j' hj'
    obtain ⟨olds, o1, o2, o3⟩ := hold
    refine vI (base := some ad) (sLen := n) (sCap := cap) (olds := olds) (es1 := ((aE m l).drop i).take n) (E := E) (mm := E.length) hs hL hu hti hzv hsz htis hce hby
     o1 o2 hlen1 rfl (fun j hj => ?_) hsrc hnews (by omega) (by omega) hff' hffL hr
    rw [hgt j hj]
    exact ⟨(q4 (i + j) (by omega)).1, o3 j hj⟩
end
end Go.Abs
end
