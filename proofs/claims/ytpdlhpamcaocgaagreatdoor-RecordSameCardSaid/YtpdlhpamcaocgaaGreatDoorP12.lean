/- linchpin: RecordSame answers true for every two records, whatever their size; nothing is assumed of the arguments. -/
import Derived.Carry
import Derived.ChangeArms
import Derived.ChangeSame
import Derived.Deep.DeepHandedRow
import Derived.Lib.LaidTab
import Derived.OpenShut
import Derived.RowKit
import Derived.Shelf.Strings.Builder2
import Derived.Test.YtpdlhpamcaocgaaGreatDoorCards
import Derived.Test.YtpdlhpamcaocgaaGreatDoorTie
import Derived.WideKeyArgs
import Derived.WideShapes
import Derived.Test.YtpdlhpamcaocgaaGreatDoorP11
set_option linter.all false
section
namespace Go.Abs
open Go.Proofs Go.Shelf Go.RowKit
section
variable [cd] {P : Program}
def iz (U : TypeId) (w : World) (v : Value) (s : List UInt8) : Prop :=
 (v = .slice none 0 0 ∧ s = []) ∨ ∃ g t c, v = .slice (some ⟨g, 0, none⟩) s.length t ∧ w.heap[g]? = some (.cells c U (0, 0)) ∧ c.size = t ∧ t ≤ maxLen ∧ s.length ≤ t ∧ ∀ i, i < s.length → c.getD i undef = .int .u8 (s.getD i 0).toNat
def c8 (s : List UInt8) : List Value := s.map fun b => Value.int .u8 b.toNat
theorem eo (s : List UInt8) : (c8 s).length = s.length := by simp [c8]
theorem nK (s : List UInt8) (i : Nat) (h : i < s.length) : (c8 s).getD i undef = .int .u8 (s.getD i 0).toNat := by simp [c8, List.getD, h]
theorem rB (s : List UInt8) : ∀ u ∈ c8 s, u.oneCell' = true := by
 intro u hu
 obtain ⟨b, _, rfl⟩ := List.mem_map.1 hu
 rfl
theorem yO {x y : List UInt8} {zs : Array Value} (i : Nat) (hi : i < (x ++ y).length) : (((c8 x ++ c8 y).toArray ++ zs).getD i undef) = .int .u8 ((x ++ y).getD i 0).toNat := by
 rw [← bn]
 simp only [Array.toList_append]
 rw [bT, if_pos (by simpa [c8] using hi)]
 have : c8 x ++ c8 y = c8 (x ++ y) := by simp [c8]
 rw [this, nK _ _ hi]
theorem CH {U t u ty : TypeId} {i : TypeInfo} {w : World} (ht : P.underlying t = some (.slice U)) (hi : P.info? U = some i) (hz : i.zero = some (.int .u8 0)) (hs : i.size = 1) (hby : i.bytes = 1) {v xv : Value} {s s2 : List UInt8}
  (hv : iz U w v s) (h0 : s2 ≠ []) (hsrc : Go.Src P 1 u xv s2.length (c8 s2) w) (hle : s.length + s2.length ≤ 1099511627776) :
  ∃ g' t' w', (Builtin.append_ #[t, u] ty #[v, xv]).run P w = .ok (.slice (some ⟨g', 0, none⟩) (s ++ s2).length t') w' ∧ iz U w' (.slice (some ⟨g', 0, none⟩) (s ++ s2).length t') (s ++ s2) ∧ w.grownBy w' v.ownBlock ∧ (v.ownBlock = some g' ∨ w.heap.size ≤ g') ∧ g' < w'.heap.size := by
 have hp : 0 < s2.length := List.length_pos_iff.2 h0
 have hm : maxLen = 9223372036854775807 := rfl
 rw [← hs] at hsrc
 rcases hv with ⟨rfl, rfl⟩ | ⟨g, cap, c, rfl, hg, hcs, hcm, hle2, hc⟩
 ·have hr := run_append_grow_src (P := P) w t u ty U i _ ht hi hz none 0 0 [] (by simp [Builtin.firstCells, loadCells, loadCellsFrom]) xv s2.length (c8 s2) hsrc (by omega) (by simp only [List.length_nil] at hle; omega) (by rw [hby]; exact growslice_fits (by omega) (by simp only [List.length_nil] at hle; omega))
  have hge := grownCap_ge w (0 + s2.length) 0 U
  have hcm2 : grownCap w (0 + s2.length) 0 U ≤ maxLen := grownCap_le_maxLen w (0 + s2.length) 0 U (by simp only [List.length_nil] at hle; omega)
  simp only [Nat.zero_add, List.nil_append] at hr hge hcm2
  refine ⟨w.heap.size, _, _, hr, .inr ⟨w.heap.size, _, _, rfl, cM w.drew _, ?_, hcm2, hge, fun j hj => ?_⟩, ⟨rfl, rfl, rfl, ?_, fun k hk _ => gT w.drew _ k hk⟩, .inr (Nat.le_refl _), ?_⟩
  ·have hz1 : (Value.int IntKind.u8 0).cells.size = 1 := rfl
   simp only [List.nil_append, Array.size_append, List.size_toArray, eo, size_zeroCells, hz1]
   omega
  ·exact yO (x := []) j hj
  ·show w.heap.size ≤ (w.drew.heap.push _).size
   rw [Array.size_push]; exact Nat.le_succ _
  ·show w.heap.size < (w.drew.heap.push _).size
   rw [Array.size_push]; exact Nat.lt_succ_self _
 ·by_cases hroom : s.length + s2.length ≤ cap
  ·have hr := run_append_room_src (P := P) w t u ty U i ht hi g 0 s.length cap xv s2.length (c8 s2) hsrc hroom (fun j hj => by
    rw [hs, cell_of_heap hg (by rw [eo] at hj; omega)]; rfl) (fun j hj => by simp [World.frozen?, hg])
   obtain ⟨c', s1, s3, s4⟩ := gW g (c8 s2) (0 + s.length * i.size) w c U (0, 0) hg (by rw [eo, hs]; omega)
   obtain ⟨f1, f2, f3, f4⟩ := gp g (c8 s2) (0 + s.length * i.size) w
   have hlt : g < w.heap.size := by
    rcases Nat.lt_or_ge g w.heap.size with h | h
    ·exact h
    ·simp [Array.getElem?_eq_none h] at hg
   refine ⟨g, cap, _, by simpa using hr, .inr ⟨g, cap, c', by simp, s1, by omega, hcm, by rw [List.length_append]; exact hroom, fun j hj => ?_⟩, ⟨f1, f2, f3, by omega, fun k _ hk => gr g _ _ _ k (fun e => hk (by simp [Value.ownBlock, e]))⟩, .inl rfl, by omega⟩
   rw [s4, eo, hs]
   rw [List.length_append] at hj
   by_cases hj2 : j < s.length
   ·rw [if_neg (by omega), hc j hj2, bT, if_pos hj2]
   ·rw [if_pos (by omega), nK _ _ (by omega), bT, if_neg hj2]
    congr 4; omega
  ·have hold : (Builtin.firstCells i.size s.length (.slice (some ⟨g, 0, none⟩) s.length cap)).run P w.drew = .ok (c8 s).toArray w.drew := by
    refine run_firstCells_some w.drew i.size s.length _ s.length cap _ (by simp [eo, hs]) (fun j u' hj => ?_)
    have hj2 : j < s.length := by
     have := (List.getElem?_eq_some_iff.1 hj).1; rwa [eo] at this
    have hg' : w.drew.heap[g]? = some (.cells c U (0, 0)) := hg
    rw [Addr.qB, cell_of_heap hg' (by omega), Nat.zero_add, hc j hj2, ← nK s j hj2]
    simp [List.getD, hj]
   have hr := run_append_grow_src (P := P) w t u ty U i _ ht hi hz (some ⟨g, 0, none⟩) s.length cap (c8 s) hold xv s2.length (c8 s2) hsrc (by omega) (by omega) (by rw [hby]; exact growslice_fits (by omega) (by omega))
   have hge := grownCap_ge w (s.length + s2.length) cap U
   have hcm2 : grownCap w (s.length + s2.length) cap U ≤ maxLen := grownCap_le_maxLen w (s.length + s2.length) cap U (by omega)
   refine ⟨w.heap.size, _, _, by simpa using hr, .inr ⟨w.heap.size, _, _, by simp, cM w.drew _, ?_, hcm2, by simpa using hge, fun j hj => ?_⟩, ⟨rfl, rfl, rfl, ?_, fun k hk _ => gT w.drew _ k hk⟩, .inr (Nat.le_refl _), ?_⟩
   ·have hz1 : (Value.int IntKind.u8 0).cells.size = 1 := rfl
    simp only [Array.size_append, List.size_toArray, List.length_append, eo, size_zeroCells, hz1]
    omega
   ·exact yO j hj
   ·show w.heap.size ≤ (w.drew.heap.push _).size
    rw [Array.size_push]; exact Nat.le_succ _
   ·show w.heap.size < (w.drew.heap.push _).size
    rw [Array.size_push]; exact Nat.lt_succ_self _
theorem sS {ops : Array Oper} {rest : List Oper} {o : Oper} {a : Act} {Q : Exit → Act → World → Prop} (hgd : o.guard = none) (sl x : Operand) (t u : TypeId)
  (ho : o.op = .call { callee := .builtin .append, args := #[sl, x], argTypes := #[t, u] }) {U : TypeId} {i : TypeInfo} {w : World}
  (ht : P.underlying t = some (.slice U)) (hi : P.info? U = some i) (hz : i.zero = some (.int .u8 0)) (hsz : i.size = 1) (hby : i.bytes = 1) {v xv : Value} {s s2 : List UInt8} (hs : a.eval sl = v) (hx : a.eval x = xv)
  (hv : iz U w v s) (h0 : s2 ≠ []) (hsrc : Go.Src P 1 u xv s2.length (c8 s2) w) (hle : s.length + s2.length ≤ 1099511627776)
  (h : ∀ g' t' w', iz U w' (.slice (some ⟨g', 0, none⟩) (s ++ s2).length t') (s ++ s2) → w.grownBy w' v.ownBlock → (v.ownBlock = some g' ∨ w.heap.size ≤ g') → g' < w'.heap.size → wpList P ops Q rest (a.put o.dst (.slice (some ⟨g', 0, none⟩) (s ++ s2).length t')) w') : wpList P ops Q (o :: rest) a w := by
 refine wpList_plain hgd fun K hK => ?_
 obtain ⟨g', t', w', hr, h2, h3, h4, h5⟩ := CH (P := P) (ty := o.type) ht hi hz hsz hby hv h0 hsrc hle
 unfold Oper.wp execOp
 simp only [ho, resolve, invoke, builtin, Sem.run_bind, Sem.run_pure, Result.andThen_ok, List.map_toArray, List.map_cons, List.map_nil, hs, hx, hr]
 exact hK _ _ (h g' t' w' h2 h3 h4 h5)
theorem xI (w : World) (g n : Nat) : (w.drew.freeze ⟨g, 0, none⟩ n).os = w.os ∧ (w.drew.freeze ⟨g, 0, none⟩ n).tape = w.tape ∧ (w.drew.freeze ⟨g, 0, none⟩ n).output = w.output ∧ (w.drew.freeze ⟨g, 0, none⟩ n).heap.size = w.heap.size ∧ ∀ k, k ≠ g → (w.drew.freeze ⟨g, 0, none⟩ n).heap[k]? = w.heap[k]? := by
 unfold World.freeze
 split
 ·exact ⟨rfl, rfl, rfl, rfl, fun _ _ => rfl⟩
 ·refine ⟨rfl, rfl, rfl, by simp, fun k hk => ?_⟩
  simp only [Array.getElem?_modify]
  rw [if_neg (fun e => hk e.symm)]
  rfl
def nj (b : Nat) (u : Bool) (v : Value) (T : TypeId) : Obj := .cells #[.pointer (if u = true then some ⟨b, 0, none⟩ else none), v] T (0, 0)
variable {ρ : Ren}
theorem tu (L : Lays.n240 P ρ) (X : Builder.X72 P ρ) {b : Nat} {u : Bool} {v : Value} {w : World} (h : w.heap[b]? = some (nj b u v (ρ.t 72))) :
  Calls P (ρ.f 240) #[.pointer (some ⟨b, 0, none⟩)] w fun e w' => e = .returned (.tuple #[]) ∧ w'.heap[b]? = some (nj b true v (ρ.t 72)) ∧ w.grownBy w' (some b) := by
 unfold nj at h
 cases u with
 | true =>
  refine (Any.Builder_copyCheck_used L X b w (by rw [Lib.cell_of_heap h]; rfl)).mono ?_
  rintro e w' ⟨rfl, rfl⟩
  exact ⟨rfl, h, ⟨rfl, rfl, rfl, Nat.le_refl _, fun _ _ _ => rfl⟩⟩
 | false =>
  refine (Any.Builder_copyCheck_fresh L X b w (by rw [Lib.cell_of_heap h]; rfl) (by simp [World.shape?, h]) (Lib.frozen_of_heap h 0)).mono ?_
  rintro e w' ⟨rfl, rfl⟩
  exact ⟨rfl, by simp [World.setCell, Array.getElem?_modify, h, nj], ⟨rfl, rfl, rfl, by simp [World.setCell], fun k _ hk => Below.heap_setCell _ _ _ _ (fun e => hk (by simp [e]))⟩⟩
def vE (T U : TypeId) (b : Nat) (g : Option Nat) (s : List UInt8) (w w' : World) : Prop :=
 ∃ g' t', w'.heap[b]? = some (nj b true (.slice (some ⟨g', 0, none⟩) s.length t') T) ∧ iz U w' (.slice (some ⟨g', 0, none⟩) s.length t') s ∧ (g = some g' ∨ w.heap.size ≤ g') ∧ g' < w'.heap.size ∧ g' ≠ b ∧
  w'.os = w.os ∧ w'.tape = w.tape ∧ w'.output = w.output ∧ w.heap.size ≤ w'.heap.size ∧ ∀ k, k < w.heap.size → k ≠ b → some k ≠ g → w'.heap[k]? = w.heap[k]?
theorem iz.kX {U : TypeId} {w w' : World} {v : Value} {s : List UInt8} (h : iz U w v s) (hk : ∀ g, v.ownBlock = some g → w'.heap[g]? = w.heap[g]?) : iz U w' v s := by
 rcases h with h | ⟨g, t, c, rfl, hg, r⟩
 ·exact .inl h
 ·exact .inr ⟨g, t, c, rfl, (hk g rfl).trans hg, r⟩
theorem iz.lt {U : TypeId} {w : World} {v : Value} {s : List UInt8} (h : iz U w v s) {g : Nat} (hg : v.ownBlock = some g) : g < w.heap.size ∧ ∃ c, w.heap[g]? = some (.cells c U (0, 0)) := by
 rcases h with ⟨rfl, _⟩ | ⟨g', t, c, rfl, hg', r⟩
 ·cases hg
 ·simp only [Value.ownBlock, Option.some.injEq] at hg
  subst hg
  refine ⟨?_, c, hg'⟩
  rcases Nat.lt_or_ge g' w.heap.size with h | h
  ·exact h
  ·simp [Array.getElem?_eq_none h] at hg'
set_option maxHeartbeats 2000000 in
set_option maxRecDepth 100000 in
theorem qC (L : Lays.n166 P ρ) (X : Builder.Extra P ρ) {b : Nat} {u : Bool} {v : Value} {s s2 : List UInt8} {w : World} (h : w.heap[b]? = some (nj b u v (ρ.t 72))) (hv : iz (ρ.t 5) w v s) (h0 : s2 ≠ []) (hm2 : s2.length ≤ maxLen) (hle : s.length + s2.length ≤ 1099511627776) :
  Calls P (ρ.f 166) #[.pointer (some ⟨b, 0, none⟩), .string ⟨⟨s2⟩⟩] w fun e w' => (∃ r, e = .returned r) ∧ vE (ρ.t 72) (ρ.t 5) b v.ownBlock (s ++ s2) w w' := by
 obtain ⟨i0, hi, hz0, hz1, hz2⟩ := info_parts X.infoByte
 have mixed := L.mixed
 have t72 := L.t72; have a72 := L.a72; have z72 := L.z72; have v72 := L.v72; have u72 := run_underlying L.t72
 have t70 := L.t70; have a70 := L.a70; have z70 := L.z70; have v70 := L.v70; have u70 := run_underlying L.t70
 have t37 := L.t37; have a37 := L.a37; have z37 := L.z37; have v37 := L.v37; have u37 := run_underlying L.t37
 have t3 := L.t3; have a3 := L.a3; have z3 := L.z3; have v3 := L.v3; have u3 := run_underlying L.t3
 have t9 := L.t9; have a9 := L.a9; have z9 := L.z9; have v9 := L.v9; have u9 := run_underlying L.t9
 have t4 := L.t4; have a4 := L.a4; have z4 := L.z4; have v4 := L.v4; have u4 := run_underlying L.t4
 have t164 := L.t164; have a164 := L.a164; have z164 := L.z164; have v164 := L.v164; have u164 := run_underlying L.t164
 have t5 := X.t5; have a5 := X.a5; have z5 := X.z5; have v5 := X.v5; have u5 := run_underlying X.t5
 have e240 : ∀ args w, (callFunc (ρ.f 240) args).run P w = .ok (.enter (ρ.f 240) args) w := enters_of L.f240 (by kernel_rfl) rfl
 have hne : ∀ g, v.ownBlock = some g → g ≠ b := by
  rintro g hg rfl
  obtain ⟨_, c, hc⟩ := hv.lt hg
  rw [h] at hc
  simp only [nj, Option.some.injEq, Obj.cells.injEq] at hc
  exact X.neB5 hc.2.1
 go_enter L.f166, Body.n166_ntmps ρ
 go_wp2_with (go_at_fn (ρ.f 240); refine (tu { L with } X.toX72 h).mono ?_)
 rintro e w1 ⟨rfl, h1, hb1⟩
 have hv1 : iz (ρ.t 5) w1 v s := hv.kX fun g hg => hb1.block g (hv.lt hg).1 (fun e => hne g hg (Option.some.inj e))
 have c0 : w1.cell? ⟨b, 0, none⟩ = some (.pointer (some ⟨b, 0, none⟩)) := by rw [Lib.cell_of_heap h1]; rfl
 have c1 : w1.cell? ⟨b, 1, none⟩ = some v := by rw [Lib.cell_of_heap h1]; rfl
 have hsrc : Go.Src P 1 (ρ.t 9) (.string ⟨⟨s2⟩⟩) s2.length (c8 s2) w1 := ⟨.inr L.t9, fun _ => rfl, firstCells_string _ _, firstCells_string _ _, by rw [eo, Nat.mul_one], rB s2⟩
 have key := fun ops rest o a Q hgd ho hs hx h => sS (P := P) (ops := ops) (rest := rest) (o := o) (a := a) (Q := Q) hgd (.tmp 12) (.tmp 13) (ρ.t 37) (ρ.t 9) ho L.t37 hi hz0 hz1 hz2 (v := v) (xv := .string ⟨⟨s2⟩⟩) hs hx hv1 h0 hsrc hle h
 go_wp2_with (at_builtin; refine key _ _ _ _ _ rfl rfl rfl rfl ?_)
 clear key
 intro g' t' w2 hown' hgrow hg' hlt'
 have hlt : b < w1.heap.size := by
  rcases Nat.lt_or_ge b w1.heap.size with h' | h'
  ·exact h'
  ·simp [Array.getElem?_eq_none h'] at h1
 have hb2 : w2.heap[b]? = some (nj b true v (ρ.t 72)) := by
  rw [hgrow.block b hlt (fun e => hne b e.symm rfl)]
  exact h1
 have hgb : g' ≠ b := by
  rcases hg' with h' | h'
  ·exact hne g' h'
  ·omega
 have d0 : w2.cell? ⟨b, 0, none⟩ = some (.pointer (some ⟨b, 0, none⟩)) := by rw [Lib.cell_of_heap hb2]; rfl
 have d1 : w2.cell? ⟨b, 1, none⟩ = some v := by rw [Lib.cell_of_heap hb2]; rfl
 have f1 : w2.frozen? ⟨b, 1, none⟩ = false := Lib.frozen_of_heap hb2 1
 go_wp2
 go_ret2
 have hsz := hb1.size
 refine ⟨⟨_, rfl⟩, ?_⟩
 unfold vE
 simp only [List.length_append] at hown' ⊢
 refine ⟨g', t', by simp [World.setCell, Array.getElem?_modify, hb2, nj], hown'.kX fun g hg => Below.heap_setCell w2 ⟨b, 1, none⟩ _ g (fun e => hgb ((Option.some.inj hg).trans e)), hg'.imp id (fun h => by omega), by simpa [World.setCell] using hlt', hgb, hgrow.os.trans hb1.os, hgrow.tape.trans hb1.tape, hgrow.output.trans hb1.output, by have := hgrow.size; simp [World.setCell]; omega, fun k hk h1' h2' => ?_⟩
 rw [Below.heap_setCell w2 ⟨b, 1, none⟩ _ k h1', hgrow.block k (by omega) h2', hb1.block k hk (fun e => h1' (Option.some.inj e))]
set_option maxHeartbeats 2000000 in
set_option maxRecDepth 100000 in
theorem sY (L : Lays.n167 P ρ) (X : Builder.Extra P ρ) {b : Nat} {u : Bool} {v : Value} {s : List UInt8} {c : UInt8} {w : World} (h : w.heap[b]? = some (nj b u v (ρ.t 72))) (hv : iz (ρ.t 5) w v s) (hle : s.length + 1 ≤ 1099511627776) :
  Calls P (ρ.f 167) #[.pointer (some ⟨b, 0, none⟩), .int .u8 c.toNat] w fun e w' => (∃ r, e = .returned r) ∧ vE (ρ.t 72) (ρ.t 5) b v.ownBlock (s ++ [c]) w w' := by
 obtain ⟨i0, hi, hz0, hz1, hz2⟩ := info_parts X.infoByte
 have mixed := L.mixed
 have t72 := L.t72; have a72 := L.a72; have z72 := L.z72; have v72 := L.v72; have u72 := run_underlying L.t72
 have t70 := L.t70; have a70 := L.a70; have z70 := L.z70; have v70 := L.v70; have u70 := run_underlying L.t70
 have t37 := L.t37; have a37 := L.a37; have z37 := L.z37; have v37 := L.v37; have u37 := run_underlying L.t37
 have t9 := L.t9; have a9 := L.a9; have z9 := L.z9; have v9 := L.v9; have u9 := run_underlying L.t9
 have t4 := L.t4; have a4 := L.a4; have z4 := L.z4; have v4 := L.v4; have u4 := run_underlying L.t4
 have t164 := L.t164; have a164 := L.a164; have z164 := L.z164; have v164 := L.v164; have u164 := run_underlying L.t164
 have t5 := L.t5; have a5 := L.a5; have z5 := L.z5; have v5 := L.v5; have u5 := run_underlying L.t5
 have e240 : ∀ args w, (callFunc (ρ.f 240) args).run P w = .ok (.enter (ρ.f 240) args) w := enters_of L.f240 (by kernel_rfl) rfl
 have hne : ∀ g, v.ownBlock = some g → g ≠ b := by
  rintro g hg rfl
  obtain ⟨_, c, hc⟩ := hv.lt hg
  rw [h] at hc
  simp only [nj, Option.some.injEq, Obj.cells.injEq] at hc
  exact X.neB5 hc.2.1
 go_enter L.f167, Body.n167_ntmps ρ
 go_wp2_with (go_at_fn (ρ.f 240); refine (tu { L with } X.toX72 h).mono ?_)
 rintro e w1 ⟨rfl, h1, hb1⟩
 have hv1 : iz (ρ.t 5) w1 v s := hv.kX fun g hg => hb1.block g (hv.lt hg).1 (fun e => hne g hg (Option.some.inj e))
 have c0 : w1.cell? ⟨b, 0, none⟩ = some (.pointer (some ⟨b, 0, none⟩)) := by rw [Lib.cell_of_heap h1]; rfl
 have c1 : w1.cell? ⟨b, 1, none⟩ = some v := by rw [Lib.cell_of_heap h1]; rfl
 have key := fun ob ops rest o a Q sl x hgd ho hs hx hv2 hsrc h => sS (P := P) (w := w1.alloc ob) (ops := ops) (rest := rest) (o := o) (a := a) (Q := Q) hgd sl x (ρ.t 37) (ρ.t 37) ho L.t37 hi hz0 hz1 hz2 (v := v) (xv := .slice (some ⟨w1.heap.size, 0, none⟩) 1 1) (s := s) (s2 := [c]) hs hx hv2 (List.cons_ne_nil _ _) hsrc hle h
 go_wp2_with (at_builtin; refine key _ _ _ _ _ _ _ _ rfl rfl rfl rfl (hv1.kX fun g hg => Lib.alloc_old w1 _ g (hv1.lt hg).1) ?hs ?_)
 case hs =>
  refine Go.Src.ofSlice _ L.t37 ⟨w1.heap.size, 0, none⟩ 1 1 _ rfl (fun j u hj => ?_) (rB [c])
  match j, hj with
  | 0, hj => simp [c8] at hj; subst hj; simp [Addr.add]
 clear key
 intro g' t' w2 hown' hgrow hg' hlt'
 have hlt : b < w1.heap.size := by
  rcases Nat.lt_or_ge b w1.heap.size with h' | h'
  ·exact h'
  ·simp [Array.getElem?_eq_none h'] at h1
 have hb2 : w2.heap[b]? = some (nj b true v (ρ.t 72)) := by
  rw [hgrow.block b (by simp; omega) (fun e => hne b e.symm rfl), Lib.alloc_old w1 _ b hlt]
  exact h1
 have hgb : g' ≠ b := by
  rcases hg' with h' | h'
  ·exact hne g' h'
  ·omega
 have d0 : w2.cell? ⟨b, 0, none⟩ = some (.pointer (some ⟨b, 0, none⟩)) := by rw [Lib.cell_of_heap hb2]; rfl
 have d1 : w2.cell? ⟨b, 1, none⟩ = some v := by rw [Lib.cell_of_heap hb2]; rfl
 have f1 : w2.frozen? ⟨b, 1, none⟩ = false := Lib.frozen_of_heap hb2 1
 go_wp2
 go_ret
 have hsz := hb1.size
 refine ⟨⟨_, rfl⟩, ?_⟩
 unfold vE
 simp only [List.length_append] at hown' ⊢
 refine ⟨g', t', by simp [World.setCell, Array.getElem?_modify, hb2, nj], hown'.kX fun g hg => Below.heap_setCell w2 ⟨b, 1, none⟩ _ g (fun e => hgb ((Option.some.inj hg).trans e)), hg'.imp id (fun h => by omega), by simpa [World.setCell] using hlt', hgb, hgrow.os.trans hb1.os, hgrow.tape.trans hb1.tape, hgrow.output.trans hb1.output, by have := hgrow.size; simp at this; simp [World.setCell]; omega, fun k hk h1' h2' => ?_⟩
 rw [Below.heap_setCell w2 ⟨b, 1, none⟩ _ k h1', hgrow.block k (by simp; omega) h2', Lib.alloc_old w1 _ k (by omega), hb1.block k hk (fun e => h1' (Option.some.inj e))]
set_option maxHeartbeats 1000000 in
set_option maxRecDepth 100000 in
theorem xy (L : Lays.n169 P ρ) (X : Builder.Extra P ρ) {b g t : Nat} {u : Bool} {s : List UInt8} {w : World} (h : w.heap[b]? = some (nj b u (.slice (some ⟨g, 0, none⟩) s.length t) (ρ.t 72))) (hv : iz (ρ.t 5) w (.slice (some ⟨g, 0, none⟩) s.length t) s) (h0 : s ≠ []) :
  Calls P (ρ.f 169) #[.pointer (some ⟨b, 0, none⟩)] w fun e w' => e = .returned (.string ⟨⟨s⟩⟩) ∧ w'.os = w.os ∧ w'.tape = w.tape ∧ w'.output = w.output ∧ w'.heap.size = w.heap.size ∧ ∀ k, k ≠ g → w'.heap[k]? = w.heap[k]? := by
 have hl0 : s.length ≠ 0 := by simpa using h0
 obtain ⟨c, hg, hcs, hcm, hle, hc⟩ : ∃ c, w.heap[g]? = some (.cells c (ρ.t 5) (0, 0)) ∧ c.size = t ∧ t ≤ maxLen ∧ s.length ≤ t ∧ ∀ i, i < s.length → c.getD i undef = .int .u8 (s.getD i 0).toNat := by
  rcases hv with ⟨h1, _⟩ | ⟨g', t', c, h1, r⟩
  ·cases h1
  ·simp only [Value.slice.injEq, Option.some.injEq, Addr.mk.injEq] at h1
   obtain ⟨⟨rfl, _⟩, _, rfl⟩ := h1
   exact ⟨c, r⟩
 have c1 : w.drew.cell? ⟨b, 1, none⟩ = some (.slice (some ⟨g, 0, none⟩) s.length t) := by
  have : w.drew.heap[b]? = some (nj b u (.slice (some ⟨g, 0, none⟩) s.length t) (ρ.t 72)) := h
  rw [Lib.cell_of_heap this]; rfl
 have hSD : (Builtin.unsafeSliceData_ #[(ρ.t 37)] (ρ.t 127) #[.slice (some ⟨g, 0, none⟩) s.length t]).run P w.drew = .ok (.pointer (some ⟨g, 0, none⟩)) w.drew :=
  Lib.run_unsafeSliceData_row _ _ _ _ _ _ (by omega)
 have hUS : (Builtin.unsafeString_ #[(ρ.t 127), (ρ.t 3)] (ρ.t 9) #[.pointer (some ⟨g, 0, none⟩), .int .i64 s.length]).run P w.drew = .ok (.string ⟨s.toArray⟩) (w.drew.freeze ⟨g, 0, none⟩ s.length) := by
  refine Lib.run_unsafeString_row w.drew (ρ.t 127) (ρ.t 3) (ρ.t 9) (ρ.t 5) L.t127 X.cellsByte g c.size (by have hg' : w.drew.heap[g]? = some (.cells c (ρ.t 5) (0, 0)) := hg; simp [World.shape?, hg']) s h0 (by omega) (by unfold maxLen at hcm; omega) ?_
  intro j x hx
  have hj := (List.getElem?_eq_some_iff.1 hx).1
  have hg' : w.drew.heap[g]? = some (.cells c (ρ.t 5) (0, 0)) := hg
  rw [Addr.qB, cell_of_heap hg' (by omega), Nat.zero_add, hc j hj]
  simp [List.getD, hx]
 have mixed := L.mixed
 have t72 := L.t72; have a72 := L.a72; have z72 := L.z72; have v72 := L.v72; have u72 := run_underlying L.t72
 have t70 := L.t70; have a70 := L.a70; have z70 := L.z70; have v70 := L.v70; have u70 := run_underlying L.t70
 have t37 := L.t37; have a37 := L.a37; have z37 := L.z37; have v37 := L.v37; have u37 := run_underlying L.t37
 have t127 := L.t127; have a127 := L.a127; have z127 := L.z127; have v127 := L.v127; have u127 := run_underlying L.t127
 have t3 := L.t3; have a3 := L.a3; have z3 := L.z3; have v3 := L.v3; have u3 := run_underlying L.t3
 have t9 := L.t9; have a9 := L.a9; have z9 := L.z9; have v9 := L.v9; have u9 := run_underlying L.t9
 have t5 := X.t5; have a5 := X.a5; have z5 := X.z5; have v5 := X.v5; have u5 := run_underlying X.t5
 go_enter L.f169, Body.n169_ntmps ρ
 go_wp2
 go_region_o
 all_goals (go_wp2; go_ret; exact ⟨rfl, xI _ _ _⟩)
end
end Go.Abs
end
section
namespace Go.Abs
open Go.Proofs Go.Shelf Go.RowKit
section
variable [cd] {P : Program} {ν : List (Nat × Nat)} {bM : List Nat} {Γ : Ctx} {x : X}
theorem xx {m : List (Nat × bm)} {l : Nat} {t : List UInt8} {v : Value} (hs : dm ν x (look m)) (hb : nu m l t) (hv : RD ν x v (.ptr l 2 0 0)) :
  ∃ b tot u w, v = .pointer (some ⟨b, 0, none⟩) ∧ x.β l = some (b, 0, tot) ∧ ¬ x.I b ∧ x.w.heap[b]? = some (nj b u w cd.tB) ∧ iz cd.tU x.w w t ∧
   (w.ownBlock = none ∧ dn m l = m ∨ ∃ l2 g t2, w = .slice (some ⟨g, 0, none⟩) t.length t2 ∧ x.β l2 = some (g, 0, t2) ∧ ¬ x.I g ∧ look m l2 = some (.row t) ∧ l2 ≠ l ∧ dn m l = cg m l2) := by
 cases hv with
 | ptr _ _ _ _ b base tot at_ hβ hat =>
  rcases hb with ⟨u, h1, rfl⟩ | ⟨l2, u, h1, h2⟩
  ·obtain ⟨o1, rfl, w, o2, _, rfl⟩ := hs.own l _ b base tot h1 hβ
   simp only [Nat.zero_mul, Nat.add_zero] at hat
   subst hat
   exact ⟨b, tot, u, _, rfl, hβ, o1, o2, .inl ⟨rfl, rfl⟩, .inl ⟨rfl, by simp only [dn, h1]⟩⟩
  ·obtain ⟨o1, rfl, w, o2, g, t2, rfl, o3, o4⟩ := hs.own l _ b base tot h1 hβ
   simp only [Nat.zero_mul, Nat.add_zero] at hat
   subst hat
   obtain ⟨p1, _, c, p2, p3, p4, p5, p6⟩ := hs.own l2 _ g 0 t2 h2 o4
   have hne : l2 ≠ l := by rintro rfl; rw [h1] at h2; cases h2
   exact ⟨b, tot, u, _, rfl, hβ, o1, o2, .inr ⟨g, t2, c, rfl, p2, p3, p4, p5, p6⟩, .inr ⟨l2, g, t2, rfl, o4, p1, h2, hne, by simp only [dn, h1]⟩⟩
theorem ux {st : St} {l : Nat} {t s : List UInt8} {b tot : Nat} {w : Value} {w' : World} (hs : dm ν x (look st.m)) (hf : dj st x) (hlive : look st.m l ≠ none) (hl : l < st.nx)
  (hβ : x.β l = some (b, 0, tot)) (hI : ¬ x.I b)
  (hrow : w.ownBlock = none ∧ dn st.m l = st.m ∨ ∃ l2 g t2, w = .slice (some ⟨g, 0, none⟩) t.length t2 ∧ x.β l2 = some (g, 0, t2) ∧ ¬ x.I g ∧ look st.m l2 = some (.row t) ∧ l2 ≠ l ∧ dn st.m l = cg st.m l2)
  (hw : vE cd.tB cd.tU b w.ownBlock s x.w w') :
  ∃ x' : X, x'.w = w' ∧ Step x x' ∧ dm ν x' (look (lR st.m l st.nx s)) ∧ dj ⟨st.nx + 1, lR st.m l st.nx s⟩ x' := by
 obtain ⟨g', t', h1, h2, h3, h4, h5, k1, k2, k3, k4, k5⟩ := hw
 have hn := hf.β st.nx (Nat.le_refl _)

 have hg : ∀ g, w.ownBlock = some g → ∃ l2 t2, x.β l2 = some (g, 0, t2) ∧ ¬ x.I g ∧ look st.m l2 = some (.row t) ∧ l2 ≠ l ∧ dn st.m l = cg st.m l2 := by
  intro g hg
  rcases hrow with ⟨h, _⟩ | ⟨l2, g0, t2, rfl, q⟩
  ·rw [h] at hg; cases hg
  ·obtain rfl := Option.some.inj hg
   exact ⟨l2, t2, q⟩
 have hlook : ∀ l' blk, l' ≠ l → look (dn st.m l) l' = some blk → look st.m l' = some blk ∧ ∀ g, w.ownBlock = some g → ∀ p, x.β l' = some p → p.1 ≠ g := by
  intro l' blk hl' hk
  rcases hrow with ⟨h, e⟩ | ⟨l2, g0, t2, rfl, q1, q2, q3, q4, e⟩
  ·rw [e] at hk; exact ⟨hk, fun g hg => by rw [h] at hg; cases hg⟩
  ·rw [e, dJ] at hk
   split at hk
   ·cases hk
   ·rename_i hne
    refine ⟨hk, fun g hg p hp e => ?_⟩
    obtain rfl := Option.some.inj hg
    obtain ⟨b', base', tot'⟩ := p
    simp only at e
    subst e
    exact hne (hs.inj l' l2 _ _ _ _ _ (by rw [hk]; simp) (by rw [q3]; simp) hp q1)
 have hbg : ∀ l' p, x.β l' = some p → p.1 < x.w.heap.size := fun l' ⟨b', base', tot'⟩ hp => hs.cT l' b' base' tot' hp
 have hkeep : ∀ k, k < x.w.heap.size → k ≠ b → some k ≠ w.ownBlock → w'.heap[k]? = x.w.heap[k]? := k5
 let x' : X := ⟨w', x.I, cG x.β st.nx (g', 0, t')⟩
 have hst : Step x x' := by
  refine ⟨k1, k2, k3, k4, fun _ h => h, fun k hk => hkeep k (hs.imm k hk) (fun e => hI (e ▸ hk)) (fun e => ?_), fun l' p hp => ?_, fun k hk hn' => hkeep k hk (fun e => hn' l _ hβ e.symm) (fun e => ?_), fun _ h => .inl h, fun l' p hp => ?_⟩
  ·obtain ⟨l2, t2, q1, q2, _⟩ := hg k e.symm
   exact q2 hk
  ·have : l' ≠ st.nx := fun e => by rw [e, hn] at hp; cases hp
   simp [x', cG, this, hp]
  ·obtain ⟨l2, t2, q1, _⟩ := hg k e.symm
   exact hn' l2 _ q1 rfl
  ·by_cases e1 : l' = st.nx
   ·simp only [x', cG, e1, if_true, Option.some.injEq] at hp
    subst hp
    rcases h3 with h3 | h3
    ·obtain ⟨l2, t2, q1, _⟩ := hg g' h3
     exact .inr (.inr ⟨l2, _, q1, rfl⟩)
    ·exact .inr (.inl h3)
   ·simp only [x', cG, e1, if_false] at hp
    exact .inl hp
 have hle := hst.le
 have hlm : ∀ l', look (lR st.m l st.nx s) l' = if l' = st.nx then some (.row s) else if l' = l then some (.bld (some st.nx) s.length true) else look (dn st.m l) l' := by
  intro l'
  simp only [lR, look]
  by_cases e : l' = st.nx
  ·rw [if_pos e.symm, if_pos e]
  ·rw [if_neg (fun h => e h.symm), if_neg e, bt]
 have hfr : ∀ l' p, l' ≠ st.nx → x.β l' = some p → l' ≠ l → look (dn st.m l) l' ≠ none → p.1 ≠ g' := by
  intro l' p hl' hp hne hk e
  cases hq : look (dn st.m l) l' with
  | none => exact hk hq
  | some blk =>
   rcases h3 with h3 | h3
   ·exact (hlook l' blk hne hq).2 g' h3 p hp e
   ·have := hbg l' p hp; omega
 refine ⟨x', rfl, hst, ⟨fun l' blk b' base' tot' e1 e2 => ?_, fun l1 l2 b' base1 tot1 base2 tot2 e1 e2 e3 e4 => ?_, fun k hk => Nat.lt_of_lt_of_le (hs.imm k hk) k4, fun l' b' base' tot' e => ?_, mc hle hs.gd⟩, ⟨fun l' hl' => ?_, fun l' hl' => ?_⟩⟩
 ·rw [hlm] at e1
  by_cases c1 : l' = st.nx
  ·rw [if_pos c1] at e1
   simp only [x', cG, if_pos c1, Option.some.injEq, Prod.mk.injEq] at e2
   obtain ⟨rfl, rfl, rfl⟩ := e2
   obtain rfl := Option.some.inj e1
   refine ⟨fun h => ?_, rfl, ?_⟩
   ·rcases h3 with h3 | h3
    ·obtain ⟨l2, t2, _, q2, _⟩ := hg g' h3; exact q2 h
    ·have := hs.imm g' h; omega
   ·rcases h2 with ⟨h2, _⟩ | ⟨g2, t2, c, h2, r⟩
    ·cases h2
    ·simp only [Value.slice.injEq, Option.some.injEq, Addr.mk.injEq] at h2
     obtain ⟨⟨rfl, _⟩, _, rfl⟩ := h2
     exact ⟨c, r⟩
  ·rw [if_neg c1] at e1
   simp only [x', cG, if_neg c1] at e2
   by_cases c2 : l' = l
   ·subst c2
    rw [if_pos rfl] at e1
    rw [hβ] at e2
    simp only [Option.some.injEq, Prod.mk.injEq] at e2
    obtain ⟨rfl, rfl, rfl⟩ := e2
    obtain rfl := Option.some.inj e1
    refine ⟨hI, rfl, _, h1, g', t', rfl, ?_, by simp [x', cG]⟩
    rcases h2 with ⟨h2, _⟩ | ⟨g2, t2, c, h2, _, _, _, r, _⟩
    ·cases h2
    ·simp only [Value.slice.injEq] at h2
     obtain ⟨_, _, rfl⟩ := h2
     exact r
   ·rw [if_neg c2] at e1
    obtain ⟨q1, q2⟩ := hlook l' blk c2 e1
    obtain ⟨o1, o2⟩ := hs.own l' blk b' base' tot' q1 e2
    refine ⟨o1, o2.mono hle (hkeep b' (hs.cT _ _ _ _ e2) (fun e => ?_) (fun e => q2 b' e.symm _ e2 rfl))⟩
    subst e
    exact c2 (hs.inj l' l _ _ _ _ _ (by rw [q1]; simp) hlive e2 hβ)
 ·rw [hlm] at e1 e2
  by_cases c1 : l1 = st.nx
  ·by_cases c2 : l2 = st.nx
   ·rw [c1, c2]
   ·exfalso
    rw [if_neg c2] at e2
    simp only [x', cG, if_pos c1, Option.some.injEq, Prod.mk.injEq] at e3
    simp only [x', cG, if_neg c2] at e4
    obtain ⟨rfl, _⟩ := e3
    by_cases c3 : l2 = l
    ·subst c3
     rw [hβ] at e4
     simp only [Option.some.injEq, Prod.mk.injEq] at e4
     exact h5 e4.1.symm
    ·rw [if_neg c3] at e2
     exact hfr l2 _ c2 e4 c3 e2 rfl
  ·rw [if_neg c1] at e1
   simp only [x', cG, if_neg c1] at e3
   by_cases c2 : l2 = st.nx
   ·exfalso
    simp only [x', cG, if_pos c2, Option.some.injEq, Prod.mk.injEq] at e4
    obtain ⟨rfl, _⟩ := e4
    by_cases c3 : l1 = l
    ·subst c3
     rw [hβ] at e3
     simp only [Option.some.injEq, Prod.mk.injEq] at e3
     exact h5 e3.1.symm
    ·rw [if_neg c3] at e1
     exact hfr l1 _ c1 e3 c3 e1 rfl
   ·rw [if_neg c2] at e2
    simp only [x', cG, if_neg c2] at e4
    have live : ∀ l', (if l' = l then some (bm.bld (some st.nx) s.length true) else look (dn st.m l) l') ≠ none → look st.m l' ≠ none := by
     intro l' h
     by_cases c : l' = l
     ·rw [c]; exact hlive
     ·rw [if_neg c] at h
      cases hq : look (dn st.m l) l' with
      | none => exact absurd hq h
      | some blk => rw [(hlook l' blk c hq).1]; simp
    exact hs.inj l1 l2 b' base1 tot1 base2 tot2 (live l1 e1) (live l2 e2) e3 e4
 ·by_cases c1 : l' = st.nx
  ·simp only [x', cG, if_pos c1, Option.some.injEq, Prod.mk.injEq] at e
   obtain ⟨rfl, _⟩ := e
   exact h4
  ·simp only [x', cG, if_neg c1] at e
   exact Nat.lt_of_lt_of_le (hs.cT _ _ _ _ e) k4
 ·have hl' : st.nx + 1 ≤ l' := hl'
  simp only [x', cG, if_neg (show ¬ l' = st.nx by omega)]
  exact hf.β l' (by omega)
 ·show l' < st.nx + 1
  simp only [hlm] at hl'
  by_cases c1 : l' = st.nx
  ·omega
  ·rw [if_neg c1] at hl'
   by_cases c2 : l' = l
   ·omega
   ·rw [if_neg c2] at hl'
    cases hq : look (dn st.m l) l' with
    | none => exact absurd hq hl'
    | some blk => have := hf.m l' (by rw [(hlook l' blk c2 hq).1]; simp); omega
theorem nu.live {m : List (Nat × bm)} {l : Nat} {t : List UInt8} (h : nu m l t) : look m l ≠ none := by
 rcases h with ⟨u, h, _⟩ | ⟨l2, u, h, _⟩ <;> rw [h] <;> simp
variable {ρ : Ren}
theorem AF {args : Array Value} (h : args.size = 2) : args = #[args.getD 0 undef, args.getD 1 undef] := by
 apply Array.ext
 ·simpa using h
 ·intro i h1 h2
  match i, h1 with
  | 0, h1 => simp [Array.getD, h1]
  | 1, h1 => simp [Array.getD, h1]
  | i + 2, h1 => omega
theorem E4 {args : Array Value} (h : args.size = 1) : args = #[args.getD 0 undef] := by
 apply Array.ext
 ·simpa using h
 ·intro i h1 h2
  match i, h1 with
  | 0, h1 => simp [Array.getD, h1]
  | i + 1, h1 => omega
theorem C5 (hB : cd.tB = ρ.t 72) (hU : cd.tU = ρ.t 5) (L : Lays.n166 P ρ) (X' : Builder.Extra P ρ) (hen : ∀ args w, (callFunc (ρ.f 166) args).run P w = .ok (.enter (ρ.f 166) args) w) : AB P ν Γ bM H9 (ρ.f 166) := by
 rintro ds st K ⟨s, l, t, rfl, hb, hl, h0, hle, hK⟩ hok x args hl2 hargs hs hf
 obtain ⟨b, tot, u, w, e0, hβ, hI, hh, hv, hrow⟩ := xx hs hb (hargs 0 (by simp))
 have h1 := hargs 1 (by simp)
 simp only [List.getD_cons_succ, List.getD_cons_zero] at h1
 obtain ⟨e1, hm⟩ := h1.fj
 rw [hB] at hh
 rw [hU] at hv
 refine .inr ⟨ρ.f 166, args, hen args x.w, ?_⟩
 rw [AF (args := args) (by simpa using hl2), e0, e1]
 refine (qC L X' hh hv h0 hm hle).mono ?_
 rintro e w' ⟨⟨r, rfl⟩, hw⟩
 rw [← hB, ← hU] at hw
 obtain ⟨x', q1, q2, q3, q4⟩ := ux hs hf hb.live hl hβ hI hrow hw
 exact ⟨x', q1, .any, _, hK, q2, .any _, q3, q4⟩
theorem C4 (hB : cd.tB = ρ.t 72) (hU : cd.tU = ρ.t 5) (L : Lays.n167 P ρ) (X' : Builder.Extra P ρ) (hen : ∀ args w, (callFunc (ρ.f 167) args).run P w = .ok (.enter (ρ.f 167) args) w) : AB P ν Γ bM H8 (ρ.f 167) := by
 rintro ds st K ⟨c, l, t, rfl, hb, hl, h0, hle, hK⟩ hok x args hl2 hargs hs hf
 obtain ⟨b, tot, u, w, e0, hβ, hI, hh, hv, hrow⟩ := xx hs hb (hargs 0 (by simp))
 have h1 := hargs 1 (by simp)
 simp only [List.getD_cons_succ, List.getD_cons_zero] at h1
 have e1 := h1.cx
 rw [hB] at hh
 rw [hU] at hv
 refine .inr ⟨ρ.f 167, args, hen args x.w, ?_⟩
 rw [AF (args := args) (by simpa using hl2), e0, e1]
 refine (sY L X' hh hv hle).mono ?_
 rintro e w' ⟨⟨r, rfl⟩, hw⟩
 rw [← hB, ← hU] at hw
 obtain ⟨x', q1, q2, q3, q4⟩ := ux hs hf hb.live hl hβ hI hrow hw
 exact ⟨x', q1, .any, _, hK, q2, .any _, q3, q4⟩
theorem C3 (hB : cd.tB = ρ.t 72) (hU : cd.tU = ρ.t 5) (L : Lays.n169 P ρ) (X' : Builder.Extra P ρ) (hen : ∀ args w, (callFunc (ρ.f 169) args).run P w = .ok (.enter (ρ.f 169) args) w) : AB P ν Γ bM H7 (ρ.f 169) := by
 rintro ds st K ⟨l, t, rfl, hb, h0, hK⟩ hok x args hl2 hargs hs hf
 obtain ⟨b, tot, u, w, e0, hβ, hI, hh, hv, hrow⟩ := xx hs hb (hargs 0 (by simp))
 rcases hrow with ⟨hn, _⟩ | ⟨l2, g, t2, rfl, q1, q2, q3, q4, q5⟩
 ·exfalso
  rcases hv with ⟨_, h⟩ | ⟨g, t', c, rfl, _⟩
  ·exact h0 h
  ·cases hn
 rw [hB] at hh
 rw [hU] at hv
 have htm : t.length ≤ maxLen := by
  rcases hv with ⟨_, rfl⟩ | ⟨g', t', c, h1, _, _, h4, h5, _⟩
  ·exact absurd rfl h0
  ·omega
 refine .inr ⟨ρ.f 169, args, hen args x.w, ?_⟩
 rw [E4 (args := args) (by simpa using hl2), e0]
 refine (xy L X' hh hv h0).mono ?_
 rintro e w' ⟨rfl, k1, k2, k3, k4, k5⟩
 have hkeep : ∀ k, (∀ l' p, look (cg (dn st.m l) l) l' ≠ none → x.β l' = some p → p.1 = k → False) → True := fun _ _ => trivial
 have hst : Step x ⟨w', x.I, x.β⟩ := ⟨k1, k2, k3, Nat.le_of_eq k4.symm, fun _ h => h, fun k hk => k5 k (fun e => q2 (e ▸ hk)), fun _ _ h => h, fun k hk hn => k5 k (fun e => hn l2 _ q1 e.symm), fun _ h => .inl h, fun _ _ h => .inl h⟩
 have hlm : ∀ l', look (cg (dn st.m l) l) l' = if l' = l then none else if l' = l2 then none else look st.m l' := fun l' => by rw [dJ, q5, dJ]
 refine ⟨⟨w', x.I, x.β⟩, rfl, .str t, _, hK, hst, .str t htm, ⟨fun l' blk b' base' tot' e1 e2 => ?_, fun l1 l3 b' base1 tot1 base2 tot2 e1 e2 e3 e4 => ?_, fun k hk => by show k < w'.heap.size; rw [k4]; exact hs.imm k hk, fun l' b' base' tot' e => by show b' < w'.heap.size; rw [k4]; exact hs.cT _ _ _ _ e, mc hst.le hs.gd⟩, ⟨hf.β, fun l' hl' => ?_⟩⟩
 ·rw [hlm] at e1
  split at e1
  ·cases e1
  split at e1
  ·cases e1
  rename_i c1 c2
  obtain ⟨o1, o2⟩ := hs.own l' blk b' base' tot' e1 e2
  refine ⟨o1, o2.mono hst.le (k5 b' (fun e => c2 ?_))⟩
  subst e
  exact hs.inj l' l2 _ _ _ _ _ (by rw [e1]; simp) (by rw [q3]; simp) e2 q1
 ·have live : ∀ l', look (cg (dn st.m l) l) l' ≠ none → look st.m l' ≠ none := by
   intro l' h
   rw [hlm] at h
   split at h
   ·exact absurd rfl h
   split at h
   ·exact absurd rfl h
   ·exact h
  exact hs.inj l1 l3 b' base1 tot1 base2 tot2 (live l1 e1) (live l3 e2) e3 e4
 ·simp only [hlm] at hl'
  split at hl'
  ·exact absurd rfl hl'
  split at hl'
  ·exact absurd rfl hl'
  ·exact hf.m l' hl'
end
end Go.Abs
end
section
namespace Go.Abs
open Go.Proofs
def BH : Nat := 3
theorem qq : Tryz.prog.globalNamed "internal/strconv.uint64pow10" = some BH := by kernel_rfl
instance H5 : cd where
 tB := 133
 tU := 5
 gd x := (x.I 0 ∧ ∃ m, x.w.cell? ⟨0, 0, none⟩ = some (.int .i64 m)) ∧ x.I BH ∧ Lib.TabIs Tryz.prog x.w "internal/strconv.uint64pow10" .u64 Lib.pow10Tab
 le x x' hI hk h := by
  obtain ⟨⟨h1, m, h2⟩, h3, h4⟩ := h
  refine ⟨⟨hI _ h1, m, kq (hk _ h1) h2⟩, hI _ h3, ?_⟩
  unfold Lib.TabIs World.var? at h4 ⊢
  rw [qq] at h4 ⊢
  simp only [Option.bind_some] at h4 ⊢
  rw [hk _ h3]; exact h4
theorem mJ {fid : Nat} {x : X} {args : Array Value} {d : D} (hn : (Tryz.prog.funcs[fid]?).map (fun f => f.name == "runtime.NumGoroutine" || !f.body.isSome) = some false)
  (himm : ∀ b, x.I b → b < x.w.heap.size)
  (hc : Calls Tryz.prog fid args x.w fun e w' => ∃ v, e = .returned v ∧ dM x.w w' ∧ ∃ I : Nat → Prop, (∀ b, x.I b → I b) ∧ (∀ b, I b → x.I b ∨ x.w.heap.size ≤ b ∧ b < w'.heap.size) ∧ RD qH ⟨w', I, x.β⟩ v d) :
  fm Tryz.prog x (fun v x' => iX x x' ∧ RD qH x' v d) ((callFunc fid args).run Tryz.prog x.w) := by
 cases h : Tryz.prog.funcs[fid]? with
 | none => rw [h] at hn; cases hn
 | some fn =>
  rw [h] at hn
  have h2 : (fn.name == "runtime.NumGoroutine" || !fn.body.isSome) = false := Option.some.inj hn
  rw [Bool.or_eq_false_iff, Bool.not_eq_false'] at h2
  refine .inr ⟨fid, args, ep h h2.1 h2.2 args x.w, Calls.mono hc fun e w' he => ?_⟩
  obtain ⟨v, rfl, hg, I, h3, h4, hr⟩ := he
  refine ⟨⟨w', I, x.β⟩, rfl, ⟨hg, h3, fun b hb => (h4 b hb).imp id And.left, fun b hb => ?_, rfl⟩, hr⟩
  rcases h4 b hb with h5 | h5
  ·exact Nat.lt_of_lt_of_le (himm b h5) hg.size
  ·exact h5.2
theorem xJ (w : World) : ∀ n, dM w (w.drewN n)
 | n => ⟨rfl, rfl, rfl, Nat.le_refl _, fun _ _ => rfl⟩
theorem gG {fid : Nat} {x : X} {args : Array Value} {d : D} {v : Value} (hn : (Tryz.prog.funcs[fid]?).map (fun f => f.name == "runtime.NumGoroutine" || !f.body.isSome) = some false)
  (himm : ∀ b, x.I b → b < x.w.heap.size) (hc : Calls Tryz.prog fid args x.w fun e w' => e = .returned v ∧ dM x.w w') (hr : ∀ x', RD qH x' v d) :
  fm Tryz.prog x (fun v x' => iX x x' ∧ RD qH x' v d) ((callFunc fid args).run Tryz.prog x.w) :=
 mJ hn himm (Calls.mono hc fun e w' ⟨h1, h2⟩ => ⟨v, h1, h2, x.I, fun _ h => h, fun _ h => .inl h, hr _⟩)
theorem dG {x : X} {v : Value} {s : aq} (h : RD qH x v (.str s)) : v = .string ⟨⟨s⟩⟩ ∧ s.length ≤ maxLen := by
 cases h with
 | str s h => exact ⟨rfl, h⟩
theorem yG {x : X} {v : Value} {k : IntKind} {n : Int} (h : RD qH x v (.int k n)) : v = .int k n := by
 cases h with
 | int k n => rfl
theorem tn {args : Array Value} (h : args.size = 2) : args = #[args.getD 0 undef, args.getD 1 undef] := by
 obtain ⟨l⟩ := args
 match l, h with
 | [a, b], _ => rfl
theorem HF {args : Array Value} (h : args.size = 3) : args = #[args.getD 0 undef, args.getD 1 undef, args.getD 2 undef] := by
 obtain ⟨l⟩ := args
 match l, h with
 | [a, b, c], _ => rfl
theorem Eb {args : Array Value} (h : args.size = 1) : args = #[args.getD 0 undef] := by
 obtain ⟨l⟩ := args
 match l, h with
 | [a], _ => rfl
theorem DF {x : X} {a b : Value} {d e : D} (h1 : RD qH x a d) (h2 : RD qH x b e) : RD qH x (.tuple #[a, b]) (.tup [d, e]) := by
 refine .tup _ _ rfl fun i hi => ?_
 match i, hi with
 | 0, _ => exact h1
 | 1, _ => exact h2
theorem DG {x : X} {a b c : Value} {d e f : D} (h1 : RD qH x a d) (h2 : RD qH x b e) (h3 : RD qH x c f) : RD qH x (.tuple #[a, b, c]) (.tup [d, e, f]) := by
 refine .tup _ _ rfl fun i hi => ?_
 match i, hi with
 | 0, _ => exact h1
 | 1, _ => exact h2
 | 2, _ => exact h3
theorem pV {x : X} (s : aq) (h : s.length ≤ 4294967296) : RD qH x (.string ⟨s.toArray⟩) (.str s) := .str s (by simp only [maxLen]; omega)
theorem zt (s : aq) (b : UInt8) : (dN s b).2.1.length ≤ s.length := by
 unfold dN; split <;> simp
theorem E487 : Ow 129 487 := by
 refine ch rfl ?_
 rintro s b hp hok x args hl hargs hnl himm ⟨⟨_, m, hm⟩, _⟩
 obtain ⟨h0, hs⟩ := dG (hargs 0 (by simp))
 obtain ⟨h1, _⟩ := dG (hargs 1 (by simp))
 rw [tn hl, h0, h1]
 refine gG (by kernel_rfl) himm (Calls.mono (Tryz.strings_Cut ⟨⟨s⟩⟩ ⟨⟨[b]⟩⟩ m x.w (by show s.length < _; omega) hm) fun e w' ⟨h1, n, h2⟩ => ⟨h1, h2 ▸ xJ _ n⟩) (fun x' => ?_)
 have hc : Lib.cut (⟨⟨s⟩⟩ : ByteArray).data.toList (⟨⟨[b]⟩⟩ : ByteArray).data.toList = dN s b := Fa s b
 rw [hc]
 have := (AN s b).1
 have := zt s b
 exact DG (pV _ (by omega)) (pV _ (by omega)) (.bool _)
theorem E254 : Ow 128 254 := by
 refine ch rfl ?_
 rintro s p hp hp2 hok x args hl hargs hnl himm _
 obtain ⟨h0, hs⟩ := dG (hargs 0 (by simp))
 obtain ⟨h1, _⟩ := dG (hargs 1 (by simp))
 rw [tn hl, h0, h1]
 refine gG (by kernel_rfl) himm (Calls.mono (Tryz.strings_CutPrefix ⟨⟨s⟩⟩ ⟨⟨p⟩⟩ x.w) fun e w' ⟨h1, h2⟩ => ⟨h1, h2 ▸ dM.refl _⟩) (fun x' => ?_)
 have hc : (Lib.trimPrefix s p, Lib.hasPrefix s p) = cX s p := zv s p
 have := xB s p
 rw [← hc] at this ⊢
 have h9 : (Lib.trimPrefix s p).length ≤ s.length := this
 exact DF (pV (Lib.trimPrefix s p) (by omega)) (.bool _)
theorem E336 : Ow 165 336 := by
 refine ch rfl ?_
 rintro n hp hok x args hl hargs hnl himm ⟨_, _, ht⟩
 have h0 := yG (hargs 0 (by simp))
 rw [Eb hl, h0]
 refine gG (by kernel_rfl) himm (Calls.mono (Tryz.strconv_Itoa n (by omega) (by omega) x.w ht) fun e w' ⟨h1, k, os, h2⟩ => ⟨h1, ?_⟩) (fun x' => ?_)
 ·subst h2
  refine ⟨rfl, rfl, rfl, by simp [Sort.grow], fun b hb => ?_⟩
  show (x.w.heap ++ os)[b]? = x.w.heap[b]?
  rw [Array.getElem?_append, if_pos hb]
 ·rw [Dh hp.1]
  have := eU 4 n.toNat (by omega) (by omega)
  exact pV _ (by omega)
theorem n9 {fid : Nat} {x : X} {args : Array Value} {ts : List ByteArray} {cap : Nat} {ty : TypeId} {L : List aq} (hn : (Tryz.prog.funcs[fid]?).map (fun f => f.name == "runtime.NumGoroutine" || !f.body.isSome) = some false) (himm : ∀ b, x.I b → b < x.w.heap.size)
  (hL : ts.map (fun t => t.data.toList) = L) (hcap : ts.length ≤ cap) (hm : cap ≤ maxLen) (hs : ∀ t ∈ L, t.length ≤ maxLen)
  (hc : Calls Tryz.prog fid args x.w fun e w' => e = .returned (.slice (some ⟨x.w.heap.size, 0, none⟩) ts.length cap) ∧ w' = x.w.alloc (.cells (Lib.cellsOf ts cap) ty)) :
  fm Tryz.prog x (fun v x' => iX x x' ∧ RD qH x' v (.sl 1 (L.map D.str))) ((callFunc fid args).run Tryz.prog x.w) := by
 refine mJ hn himm (Calls.mono hc fun e w' ⟨h1, h2⟩ => ?_)
 subst h2
 refine ⟨_, h1, dM.alloc _ _, fun q => x.I q ∨ q = x.w.heap.size, fun _ h => .inl h, fun q hq => hq.imp id fun h => ⟨by omega, by rw [h]; show _ < (x.w.heap.push _).size; simp⟩, ?_⟩
 have hsl : L.length = ts.length := by rw [← hL]; simp
 have hget : ∀ i, i < ts.length → (L.map D.str).getD i .any = .str (ts.getD i default).data.toList := fun i hi => by
  rw [← hL]
  simp [hi]
 refine .sl _ x.w.heap.size 0 ts.length cap 1 _ (fun i _ => .string (ts.getD i default)) (by simp [hsl]) (.inr ⟨rfl, .inr rfl⟩) hcap hm (fun i hi => by rw [hget i hi]; rfl) (fun i hi => by rw [hget i hi]; rfl) (fun i j hi hj => ?_) (fun i j hi hj => rfl) (fun i j hi hj => ?_)
 ·obtain rfl : j = 0 := by omega
  have := cM x.w (.cells (Lib.cellsOf ts cap) ty)
  refine (cell_of_heap (c := Lib.cellsOf ts cap) (T := ty) (fr := (0, 0)) this (by rw [Lib.cellsOf_size hcap]; omega)).trans ?_
  have hi2 : i < (ts.map Value.string).length := by simpa using hi
  simp only [Lib.cellsOf]
  simp [hi, List.getElem?_append_left hi2]
 ·obtain rfl : j = 0 := by omega
  rw [hget i hi]
  show RD qH _ (.string (ts.getD i default)) (.str (ts.getD i default).data.toList)
  generalize hq : ts.getD i default = q
  have hmem : q.data.toList ∈ L := by
   rw [← hL]
   refine List.mem_map.2 ⟨q, ?_, rfl⟩
   rw [← hq]; simp [hi]
  have := hs _ hmem
  obtain ⟨⟨ql⟩⟩ := q
  exact .str ql this
theorem ug {x : X} {s p : aq} {m : Int} {L : List aq} (hL : ∀ ts, ts = Lib.splitB ⟨⟨p⟩⟩ 0 (Lib.countB ⟨⟨s⟩⟩ ⟨⟨p⟩⟩) ⟨⟨s⟩⟩ → ts.map (fun t => t.data.toList) = L) (himm : ∀ b, x.I b → b < x.w.heap.size) (h1 : 1 ≤ p.length) (hs : s.length ≤ 1048576) (hl : L.length ≤ 1048577) (hb : ∀ t ∈ L, t.length ≤ 1048576)
  (hm : x.w.cell? ⟨0, 0, none⟩ = some (.int .i64 m)) : fm Tryz.prog x (fun v x' => iX x x' ∧ RD qH x' v (.sl 1 (L.map D.str))) ((callFunc 28 #[.string ⟨⟨s⟩⟩, .string ⟨⟨p⟩⟩]).run Tryz.prog x.w) := by
 have h2 : 1 ≤ (⟨⟨p⟩⟩ : ByteArray).size := h1
 have hlen := Lib.splitB_all ⟨⟨p⟩⟩ h2 0 _ (⟨⟨s⟩⟩ : ByteArray) rfl
 have hc := Tryz.strings_Split ⟨⟨s⟩⟩ ⟨⟨p⟩⟩ m x.w (by show s.length < _; omega) hm h2
 rw [← hlen, ← Lib.cellsOf_full] at hc
 have hL2 := hL _ rfl
 have hle : (Lib.splitB ⟨⟨p⟩⟩ 0 (Lib.countB ⟨⟨s⟩⟩ ⟨⟨p⟩⟩) ⟨⟨s⟩⟩).length ≤ maxLen := by
  have : L.length = (Lib.splitB ⟨⟨p⟩⟩ 0 (Lib.countB ⟨⟨s⟩⟩ ⟨⟨p⟩⟩) ⟨⟨s⟩⟩).length := by rw [← hL2]; simp
  simp only [maxLen]; omega
 exact n9 (by kernel_rfl) himm hL2 (Nat.le_refl _) hle (fun t ht => by have := hb t ht; simp only [maxLen]; omega) hc
theorem pY : ∀ (s cur : aq), (aK s cur).length ≤ s.length + 1 ∧ ∀ t ∈ aK s cur, t.length ≤ cur.length + s.length
 | [], cur => by simp [aK]
 | [c], cur => by simp [aK]
 | c :: d :: r, cur => by
  unfold aK
  split
  ·obtain ⟨h1, h2⟩ := pY r []
   refine ⟨by simp only [List.length_cons]; omega, fun t ht => ?_⟩
   rcases List.mem_cons.1 ht with rfl | ht
   ·omega
   ·have := h2 t ht; simp only [List.length_cons, List.length_nil] at this ⊢; omega
  ·obtain ⟨h1, h2⟩ := pY (d :: r) (cur ++ [c])
   refine ⟨by simp only [List.length_cons] at h1 ⊢; omega, fun t ht => ?_⟩
   have := h2 t ht; simp only [List.length_append, List.length_cons, List.length_nil] at this ⊢; omega
theorem E124 : Ow 28 124 := by
 refine ch rfl ⟨?_, ?_⟩
 ·rintro s b hp hok x args hl hargs hnl himm ⟨⟨_, m, hm⟩, _⟩
  obtain ⟨h0, hs⟩ := dG (hargs 0 (by simp))
  obtain ⟨h1, _⟩ := dG (hargs 1 (by simp))
  rw [tn hl, h0, h1]
  have := cY s b.toNat
  exact ug (fun ts e => by rw [e]; exact ud b _ (⟨⟨s⟩⟩ : ByteArray) rfl) himm (Nat.le_refl 1) hp (by omega) (fun t ht => Nat.le_trans (dd s b.toNat ht) hp) hm
 ·rintro s hp hok x args hl hargs hnl himm ⟨⟨_, m, hm⟩, _⟩
  obtain ⟨h0, hs⟩ := dG (hargs 0 (by simp))
  obtain ⟨h1, _⟩ := dG (hargs 1 (by simp))
  rw [tn hl, h0, h1]
  obtain ⟨q1, q2⟩ := pY s []
  exact ug (fun ts e => by rw [e]; exact Ae _ (⟨⟨s⟩⟩ : ByteArray) rfl) himm (by decide) hp (by omega) (fun t ht => by have := q2 t ht; simp only [List.length_nil] at this; omega) hm
theorem CP (n : Nat) (h : 1 ≤ n) (s : aq) : (nP n (ar s 32)).length ≤ s.length + 1 ∧ ∀ t ∈ nP n (ar s 32), t.length ≤ s.length := by
 have hl := cY s 32
 have hj : bj [32] (ar s 32) = s := by
  have := iK 32 s []
  simpa [ar] using this
 unfold nP
 split
 ·exact ⟨hl, fun t ht => dd s 32 ht⟩
 ·rename_i hn
  refine ⟨by simp only [List.length_append, List.length_take, List.length_cons, List.length_nil]; omega, fun t ht => ?_⟩
  rcases List.mem_append.1 ht with ht | ht
  ·exact dd s 32 (List.mem_of_mem_take ht)
  ·rw [List.mem_singleton.1 ht]
   have h2 : (bj [32] (ar s 32)).length = s.length := by rw [hj]
   have h3 : ∀ (l : List aq) (k : Nat), (bj [32] (l.drop k)).length ≤ (bj [32] l).length := by
    intro l
    induction l with
    | nil => simp
    | cons a l ih =>
     intro k
     cases k with
     | zero => simp
     | succ k =>
      refine Nat.le_trans (ih k) ?_
      cases l with
      | nil => simp [bj]
      | cons b l => rw [eu [32] a (b :: l) (by simp)]; simp only [List.length_append]; omega
   have := h3 (ar s 32) (n - 1)
   omega
theorem E245 : Ow 112 245 := by
 refine ch rfl ?_
 rintro s n hp hn hok x args hl hargs hnl himm ⟨⟨_, m, hm⟩, _⟩
 obtain ⟨h0, hs⟩ := dG (hargs 0 (by simp))
 obtain ⟨h1, _⟩ := dG (hargs 1 (by simp))
 have h2 := yG (hargs 2 (by simp))
 rw [HF hl, h0, h1, h2]
 rcases hn with rfl | ⟨hn1, hn2⟩
 ·have hc := yf Tryz.lays147 (by kernel_rfl) ⟨⟨s⟩⟩ ⟨⟨[32]⟩⟩ m x.w (by show s.length < _; omega) hm (Nat.le_refl 1)
  have hlen := Lib.splitB_all ⟨⟨[32]⟩⟩ (Nat.le_refl 1) 0 _ (⟨⟨s⟩⟩ : ByteArray) rfl
  have hL : (Lib.splitB ⟨⟨[32]⟩⟩ 0 (Lib.countB ⟨⟨s⟩⟩ ⟨⟨[32]⟩⟩) ⟨⟨s⟩⟩).map (fun t => t.data.toList) = gw (-1) s := ud 32 _ (⟨⟨s⟩⟩ : ByteArray) rfl
  have hsl := cY s 32
  have hll : (gw (-1) s).length = (Lib.splitB ⟨⟨[32]⟩⟩ 0 (Lib.countB ⟨⟨s⟩⟩ ⟨⟨[32]⟩⟩) ⟨⟨s⟩⟩).length := by rw [← hL]; simp
  have hw : gw (-1) s = ar s 32 := rfl
  rw [hw] at hll
  exact n9 (by kernel_rfl) himm hL (by omega) (by simp only [maxLen]; omega) (fun t ht => by have := dd s 32 ht; simp only [maxLen]; omega) hc
 ·obtain ⟨k, rfl⟩ : ∃ k : Nat, n = k := ⟨n.toNat, by omega⟩
  have hc := Tryz.strings_SplitN ⟨⟨s⟩⟩ ⟨⟨[32]⟩⟩ k m x.w (by show s.length < _; omega) hm (Nat.le_refl 1) (by omega) (by omega)
  have hle := Lib.splitB_length_le ⟨⟨[32]⟩⟩ 0 (min k ((⟨⟨s⟩⟩ : ByteArray).size + 1) - 1) ⟨⟨s⟩⟩
  have hsz : (⟨⟨s⟩⟩ : ByteArray).size = s.length := rfl
  obtain ⟨q1, q2⟩ := CP k (by omega) s
  refine n9 (by kernel_rfl) himm (L := gw (k : Int) s) ?_ (by omega) (by simp only [maxLen]; omega) (fun t ht => ?_) hc
  ·rw [Lib.splitB_data]; exact yk k (by omega) s
  ·have : gw (k : Int) s = nP k (ar s 32) := by unfold gw; rw [if_neg (by omega), Int.toNat_natCast]
   rw [this] at ht
   have := q2 t ht; simp only [maxLen]; omega
theorem E683 : Ow 155 683 := by
 refine ch rfl ?_
 rintro s b rfl hp hok x args hl hargs hnl himm _
 obtain ⟨h0, hs⟩ := dG (hargs 0 (by simp))
 obtain ⟨h1, _⟩ := dG (hargs 1 (by simp))
 rw [tn hl, h0, h1]
 refine gG (by kernel_rfl) himm (Calls.mono (Tryz.strings_Trim_one ⟨⟨s⟩⟩ 32 (by decide) x.w (by show s.length ≤ _; omega)) fun e w' ⟨h1, h2⟩ => ⟨h1, ?_⟩) (fun x' => ?_)
 ·rcases h2 with rfl | rfl
  ·exact dM.refl _
  ·exact ⟨rfl, rfl, rfl, Nat.le_refl _, fun _ _ => rfl⟩
 ·have : Lib.trimB (⟨⟨s⟩⟩ : ByteArray).data.toList 32 = dZ s := AI s
  rw [this]
  have hb : (dZ s).length ≤ s.length := by
   unfold dZ
   have h1 := ko s
   have h2 := ko (oo s).reverse
   simp only [List.length_reverse] at h2 ⊢; omega
  exact pV _ (by omega)
theorem E469 : Ow 65 469 := by
 refine ch rfl ?_
 rintro l hp hok x args hl hargs hnl himm _
 have h0 := hargs 0 (by simp)
 rw [Eb hl]
 simp only [List.getD_cons_zero] at h0
 generalize args.getD 0 undef = v0 at h0 ⊢
 cases h0 with
 | sl a b off len cap k es c hlen ha hcap hm hk hn hc h1 h =>
  simp only [List.length_map] at hlen
  subst hlen
  have fin : ∀ (e : Ending) (w' : World) v' ty, e = .returned v' → w'.ownsRow x.w.heap.size ty 1 v' l.length (l.map fun t => Value.string ⟨⟨t⟩⟩) → Go.RowKit.Below x.w.heap.size x.w w' →
    ∃ v, e = .returned v ∧ dM x.w w' ∧ ∃ I : Nat → Prop, (∀ b, x.I b → I b) ∧ (∀ b, I b → x.I b ∨ x.w.heap.size ≤ b ∧ b < w'.heap.size) ∧ RD qH ⟨w', I, x.β⟩ v (.sl 1 (l.map D.str)) := by
   rintro e w' v' ty rfl ⟨hxl, ho⟩ hB
   refine ⟨v', rfl, ⟨hB.os, hB.tape, hB.output, hB.size, hB.block⟩, ?_⟩
   rcases ho with ⟨rfl, hl0⟩ | ⟨g, cap', cur, rfl, hg, hh, hle, hml, hcs, htk⟩
   ·have : l = [] := List.length_eq_zero_iff.1 hl0
    subst this
    exact ⟨x.I, fun _ h => h, fun _ h => .inl h, .sl none 0 0 0 0 1 [] (fun _ _ => .nilIface) rfl (.inl rfl) (Nat.le_refl _) (by simp [maxLen]) (fun i hi => by omega) (fun i hi => by omega) (fun i j hi => by omega) (fun i j hi => by omega) (fun i j hi => by omega)⟩
   ·have hgl : g < w'.heap.size := (Array.getElem?_eq_some_iff.1 hh).1
    have hgt : ∀ i (hi : i < l.length), ((l.map D.str).getD i .any) = .str l[i] := fun i hi => by simp [hi]
    refine ⟨fun q => x.I q ∨ q = g, fun _ h => .inl h, fun q hq => hq.imp id fun h => by subst h; exact ⟨hg, hgl⟩, ?_⟩
    refine .sl _ g 0 l.length cap' 1 _ (fun i _ => .string ⟨⟨l.getD i []⟩⟩) (by simp) (.inr ⟨rfl, .inr rfl⟩) hle hml (fun i hi => by rw [hgt i hi]; rfl) (fun i hi => by rw [hgt i hi]; rfl) (fun i j hi hj => ?_) (fun _ _ _ _ => rfl) (fun i j hi hj => ?_)
    ·obtain rfl : j = 0 := by omega
     refine (cell_of_heap (c := cur) (T := ty) (fr := (0, 0)) hh (by omega)).trans ?_
     have e1 : cur.toList[i]? = some (.string ⟨⟨l.getD i []⟩⟩) := by
      have e2 : (cur.toList.take (l.length * 1))[i]? = (l.map fun t => Value.string ⟨⟨t⟩⟩)[i]? := by rw [htk]
      rw [List.getElem?_take, if_pos (by omega)] at e2
      rw [e2]; simp [hi]
     have e3 : cur[i]? = some (.string ⟨⟨l.getD i []⟩⟩) := by rw [← e1]; simp
     rw [show (0 + i * 1 + 0 : Nat) = i by omega, Array.getD_eq_getD_getElem?, e3]; rfl
    ·obtain rfl : j = 0 := by omega
     rw [hgt i hi]
     have q2 := h i 0 hi (by omega)
     rw [hgt i hi] at q2
     obtain ⟨_, q3⟩ := dG q2
     have : l.getD i [] = l[i] := by simp [hi]
     rw [this]
     exact .str _ q3
  rcases ha with he | ⟨rfl, hI⟩
  ·have hnil : l = [] := by simpa using he
   subst hnil
   cases a with
   | none => exact gG (by kernel_rfl) himm (Calls.mono (Tryz.slices_Clone_string_nil 0 cap x.w) fun e w' ⟨h1, h2⟩ => ⟨h1, h2 ▸ dM.refl _⟩) (fun x' => .sl none 0 0 0 0 1 [] (fun _ _ => .nilIface) rfl (.inl rfl) (Nat.le_refl _) (by simp [maxLen]) (fun i hi => by omega) (fun i hi => by omega) (fun i j hi => by omega) (fun i j hi => by omega) (fun i j hi => by omega))
   | some a => exact mJ (by kernel_rfl) himm (Calls.mono (Tryz.slices_Clone_string_zero a cap x.w) fun e w' ⟨v', h1, h2, _, h3⟩ => fin e w' v' _ h1 h2 h3)
  ·have hcell : ∀ i, (hi : i < l.length) → x.w.cell? ⟨b, off + i, none⟩ = some (.string ⟨⟨l[i]⟩⟩) := fun i hi => by
    have q1 := hc i 0 hi (by omega)
    have q2 := h i 0 hi (by omega)
    have e : ((l.map D.str).getD i .any).cells.getD 0 .any = .str l[i] := by simp [hi, D.cells]
    rw [e] at q2
    rw [(dG q2).1] at q1
    simpa using q1
   refine mJ (by kernel_rfl) himm (Calls.mono (Tryz.slices_Clone_string b off l.length cap (l.map fun t => ⟨⟨t⟩⟩) x.w (by simp) (by omega) (fun j hj => ?_)) fun e w' ⟨v', h1, h2, _, h3⟩ => ?_)
   ·rw [List.length_map] at hj
    rw [hcell j hj]; simp [hj]
   ·have : ((l.map fun t => (⟨⟨t⟩⟩ : ByteArray)).take l.length).map Value.string = l.map fun t => Value.string ⟨⟨t⟩⟩ := by
     rw [List.take_of_length_le (by simp), List.map_map]; rfl
    rw [this] at h2
    exact fin e w' v' _ h1 h2 h3
theorem E489 : Ow 131 489 := sj rfl fun ds st K h hok => C5 rfl rfl Tryz.yv Tryz.E7 (Go.Proofs.enters_of Tryz.yv.f166 (by kernel_rfl) rfl) ds st K h hok
theorem E664 : Ow 132 664 := sj rfl fun ds st K h hok => C4 rfl rfl Tryz.yw Tryz.E7 (Go.Proofs.enters_of Tryz.yw.f167 (by kernel_rfl) rfl) ds st K h hok
theorem E452 : Ow 96 452 := sj rfl fun ds st K h hok => C3 rfl rfl Tryz.yx Tryz.E7 (Go.Proofs.enters_of Tryz.yx.f169 (by kernel_rfl) rfl) ds st K h hok
theorem rS (sep : aq) (B : Nat) : ∀ l : List aq, (∀ t ∈ l, t.length ≤ B) → (bj sep l).length ≤ l.length * (B + sep.length)
 | [], _ => by simp [bj]
 | [t], h => by have := h t (.head _); simp only [bj, List.length_cons, List.length_nil]; omega
 | t :: u :: r, h => by
  have h1 := h t (.head _)
  have h2 := rS sep B (u :: r) fun x hx => h x (.tail _ hx)
  rw [eu _ _ _ (by simp)]
  rw [List.length_cons, Nat.succ_mul]
  simp only [List.length_append]
  omega
theorem E242 : Ow 95 242 := by
 refine ch rfl ?_
 rintro l sep hp1 hp2 hp3 hok x args hl hargs hnl himm _
 have h0 := hargs 0 (by simp)
 obtain ⟨h1, _⟩ := dG (hargs 1 (by simp))
 rw [tn hl, h1]
 have hj := rS sep 2097200 l hp3
 have hj2 := Nat.mul_le_mul_right (2097200 + sep.length) hp1
 have hj3 : 1048600 * (2097200 + sep.length) ≤ 140737488355328 := by
  have := Nat.mul_le_mul_left 1048600 (show 2097200 + sep.length ≤ 2097204 by omega); omega
 have hjm : (bj sep l).length ≤ 140737488355328 := by omega
 simp only [List.getD_cons_zero] at h0
 generalize args.getD 0 undef = v0 at h0 ⊢
 cases h0 with
 | sl a b off len cap k es c hlen ha hcap hm hk hn hc h1 h =>
  simp only [List.length_map] at hlen
  subst hlen
  rcases ha with he | ⟨rfl, hI⟩
  ·have hnil : l = [] := by simpa using he
   subst hnil
   refine gG (by kernel_rfl) himm (Calls.mono (Tryz.strings_Join_none a cap ⟨⟨sep⟩⟩ x.w) fun e w' ⟨h1, h2⟩ => ⟨h1, h2 ▸ dM.refl _⟩) (fun x' => ?_)
   exact pV [] (by simp)
  ·have hcell : ∀ i, (hi : i < l.length) → x.w.cell? ⟨b, off + i, none⟩ = some (.string ⟨⟨l[i]⟩⟩) := fun i hi => by
    have q1 := hc i 0 hi (by omega)
    have q2 := h i 0 hi (by omega)
    have e : ((l.map D.str).getD i .any).cells.getD 0 .any = .str l[i] := by simp [hi, D.cells]
    rw [e] at q2
    rw [(dG q2).1] at q1
    simpa using q1
   have e2 : (l.map fun t => (⟨⟨t⟩⟩ : ByteArray)).map (fun t => t.data.toList) = l := by rw [List.map_map]; exact List.map_id l
   have hjl : Lib.join ((l.map fun t => (⟨⟨t⟩⟩ : ByteArray)).map (fun t => t.data.toList)) (⟨⟨sep⟩⟩ : ByteArray).data.toList = bj sep l := by rw [e2]; exact (wh sep l).symm
   have key := Tryz.strings_Join b off cap (l.map fun t => ⟨⟨t⟩⟩) ⟨⟨sep⟩⟩ x.w (fun j y hy => by
    rw [List.getElem?_map, Option.map_eq_some_iff] at hy
    obtain ⟨t, ht, rfl⟩ := hy
    obtain ⟨hlt, rfl⟩ := List.getElem?_eq_some_iff.1 ht
    exact hcell j hlt) (himm b hI) (by simp; omega) (by simpa using hcap) (by rw [hjl]; exact hjm)
   rw [hjl, List.length_map] at key
   refine gG (by kernel_rfl) himm (Calls.mono key fun e w' ⟨h1, h2⟩ => ⟨h1, h2.os, h2.tape, h2.output, h2.size, h2.block⟩) (fun x' => ?_)
   exact .str _ (by simp only [maxLen]; omega)
end Go.Abs
end
section
namespace Go.Abs
section
variable [cd]
theorem K68 : Cp 22 jI := ck
theorem H68 : Ow 22 68 := ch rfl fun r => bB bX K68 rfl (w68 (bd _ _ _ _) (G207 (by decide)) r)
theorem K80 : Cp 27 jO := ck
theorem H80 : Ow 27 80 := ch rfl fun a b => bB bX K80 rfl (w80 (bd _ _ _ _) (G233 (by decide)) (G235 (by decide)) (G236 (by decide)) a b)
theorem K212 : Cp 45 gU := ck
theorem H212 : Ow 45 212 := ch rfl fun s => bB bX K212 rfl (w212 (bd _ _ _ _) (G445 (by decide)) (G446 (by decide)) s)
theorem K226 : Cp 33 gh := ck
theorem H226 : Ow 33 226 := ch rfl fun a b => bB bX K226 rfl (w226 (bd _ _ _ _) a b)
theorem K246 : Cp 113 fh := ck
theorem H246 : Ow 113 246 := ch rfl fun l x => bB bX K246 rfl (w246 (bd _ _ _ _) (G494 (by decide)) l x)
theorem K444 : Cp 87 gV := ck
theorem H444 : Ow 87 444 := ch rfl fun s hp0 => bB bX K444 rfl (w444 (bd _ _ _ _) (G495 (by decide)) (G496 (by decide)) s hp0)
theorem K450 : Cp 93 jQ := ck
theorem H450 : Ow 93 450 := sj rfl fun ws t l lw nx m K h1 h2 h3 h4 hp2 hK => zL bX K450 rfl h1 h2 h3 h4 hK fun m0 hp0 hp1 => w450 (bd _ _ _ _) ws t m0 (ET (by decide)) (G489 (by decide)) (G664 (by decide)) hp0 hp1 hp2
theorem K477 : Cp 73 fZ := ck
theorem H477 : Ow 73 477 := ch rfl fun a b => bB bX K477 rfl (w477 (bd _ _ _ _) (Hb (by decide)) a b)
theorem K496 : Cp 124 jX := ck
theorem H496 : Ow 124 496 := ch rfl fun r hp0 => bB bX K496 rfl (w496 (bd _ _ _ _) (EV (by decide)) r hp0)
theorem K662 : Cp 127 k9 := ck
theorem H662 : Ow 127 662 := ch rfl fun l hp0 => bB bX K662 rfl (w662 (bd _ _ _ _) (G811 (by decide)) l hp0)
theorem K685 : Cp 157 mW := ck
theorem H685 : Ow 157 685 := ch rfl fun r hp0 => bB bX K685 rfl (w685 (bd _ _ _ _) (EV (by decide)) r hp0)
theorem K827 : Cp 188 oz := ck
theorem H827 : Ow 188 827 := ch rfl fun c hp0 => bB bX K827 rfl (w827 (bd _ _ _ _) (Cz (by decide)) c hp0)
theorem K950 : Cp 194 mO := ck
theorem H950 : Ow 194 950 := ch rfl (bB bX K950 rfl (w950 (bd _ _ _ _)))
end
end Go.Abs
end
section
namespace Go.Abs
section
variable [cd]
theorem K69 : Cp 12 jH := ck
theorem H69 : Ow 12 69 := ch rfl (bB bX K69 rfl (w69 (bd _ _ _ _) (G72 (by decide)) (G76 (by decide))))
theorem K207 : Cp 49 jJ := ck
theorem H207 : Ow 49 207 := ch rfl fun l => bB bX K207 rfl (w207 (bd _ _ _ _) l)
theorem K213 : Cp 46 jD := ck
theorem H213 : Ow 46 213 := ch rfl fun l hp0 => bB bX K213 rfl (w213 (bd _ _ _ _) (zk (by decide)) (G447 (by decide)) (Hf (by decide)) (G449 (by decide)) l hp0)
theorem K233 : Cp 55 dh := ck
theorem H233 : Ow 55 233 := ch rfl fun a b => bB bX K233 rfl (w233 (bd _ _ _ _) (G234 (by decide)) a b)
theorem K349 : Cp 86 kW := ck
theorem H349 : Ow 86 349 := ch rfl fun s => bB bX K349 rfl (w349 (bd _ _ _ _) s)
theorem K445 : Cp 88 kZ := ck
theorem H445 : Ow 88 445 := ch rfl fun s => bB bX K445 rfl (w445 (bd _ _ _ _) (Cy (by decide)) (G660 (by decide)) (Hl (by decide)) s)
theorem K451 : Cp 94 hE := ck
theorem H451 : Ow 94 451 := ch rfl fun v hp0 => bB bX K451 rfl (w451 (bd _ _ _ _) (Cz (by decide)) (Hn (by decide)) v hp0)
theorem K484 : Cp 106 di := ck
theorem H484 : Ow 106 484 := ch rfl fun a b => bB bX K484 rfl (w484 (bd _ _ _ _) (G485 (by decide)) a b)
theorem K533 : Cp 115 jF := ck
theorem H533 : Ow 115 533 := ch rfl fun s b hp0 => bB bX K533 rfl (w533 (bd _ _ _ _) s b hp0)
theorem K663 : Cp 130 iE := ck
theorem H663 : Ow 130 663 := ch rfl fun l nm => bB bX K663 rfl (w663 (bd _ _ _ _) l nm)
theorem HA : Cp 158 eg := ck
theorem H808 : Ow 158 808 := sj rfl ⟨fun w nd hp0 nx lp ln m K h1 h2 h3 h4 hK => gM mj (by decide) rfl (fun _ => rfl) bX HA rfl h1 h2 h3 h4 hK (Ig (bd _ _ _ _) ov 809 xa 4 w nd (EX (by decide)) (CB (by decide)) (CD (by decide)) hp0 xz (by decide) (by decide) (fun w2 nd2 hl hp => Ho (Nat.le_refl _) w2 nd2 hp (by rw [jf h1]; exact (show 6 * w2.length + 2 < 6 * w.length + 3 by omega)))), fun w nd hp0 nx lp ln m K h1 h2 h3 h4 hK => gM mj (by decide) rfl (fun _ => rfl) bX HA rfl h1 h2 h3 h4 hK (Ig (bd _ _ _ _) kR 949 qy 3 w nd (EX (by decide)) (CB (by decide)) (CD (by decide)) hp0 tz (by decide) (by decide) (fun w2 nd2 hl hp => D5 (Nat.le_refl _) w2 nd2 hp (by rw [jf h1]; exact (show 6 * w2.length + 0 < 6 * w.length + 1 by omega))))⟩
theorem K828 : Cp 189 kP := ck
theorem H828 : Ow 189 828 := ch rfl fun c hp0 => bB bX K828 rfl (w828 (bd _ _ _ _) (Hn (by decide)) (EW (by decide)) (Hu (by decide)) c hp0)
theorem K951 : Cp 195 mN := ck
theorem H951 : Ow 195 951 := ch rfl fun l i b hp0 => bB bX K951 rfl (w951 (bd _ _ _ _) l i b (D4 (Nat.le_refl _)) hp0)
end
end Go.Abs
end
section
namespace Go.Abs
section
variable [cd]
theorem K70 : Cp 20 iN := ck
theorem H70 : Ow 20 70 := ch rfl fun r hp0 => bB bX K70 rfl (w70 (bd _ _ _ _) (ES (by decide)) (Cz (by decide)) (G210 (by decide)) (G8 (by decide)) (G9 (by decide)) (G213 (by decide)) (G214 (by decide)) (Ha (by decide)) r hp0)
theorem K208 : Cp 41 kV := ck
theorem H208 : Ow 41 208 := ch rfl fun s => bB bX K208 rfl (w208 (bd _ _ _ _) s)
theorem K214 : Cp 47 jP := ck
theorem H214 : Ow 47 214 := ch rfl fun r s hp0 => bB bX K214 rfl (w214 (bd _ _ _ _) (Hf (by decide)) r s hp0)
theorem K234 : Cp 56 ff := ck
theorem H234 : Ow 56 234 := ch rfl fun a b => bB bX K234 rfl (w234 (bd _ _ _ _) (G484 (by decide)) a b)
theorem K440 : Cp 82 iS := ck
theorem H440 : Ow 82 440 := ch rfl fun n => bB bX K440 rfl (w440 (bd _ _ _ _) n)
theorem K446 : Cp 89 k8 := ck
theorem H446 : Ow 89 446 := ch rfl fun m => bB bX K446 rfl (w446 (bd _ _ _ _) (Hl (by decide)) (Hm (by decide)) m)
theorem Hz : Cp 61 dU := ck
theorem H465 : Ow 61 465 := HU rfl G3 (fun r w n op hp0 hp1 hp2 => we 2 bX Hz rfl rfl (Ie (bd _ _ _ _) (Hc (by decide)) (Hd (by decide)) r w n op hp0 hp1 hp2)) fun r w n op l nx m K hp0 hp1 hp2 hl hK => C2 (we 2 bX Hz rfl rfl (Ie (bd _ _ _ _) (Hc (by decide)) (Hd (by decide)) r w n op hp0 hp1 hp2)) hl rfl rfl hK
theorem K485 : Cp 107 fg := ck
theorem H485 : Ow 107 485 := ch rfl fun a b => bB bX K485 rfl (w485 (bd _ _ _ _) (Hj (by decide)) a b)
theorem K658 : Cp 116 iI := ck
theorem H658 : Ow 116 658 := ch rfl fun s => bB bX K658 rfl (w658 (bd _ _ _ _) s)
theorem K665 : Cp 133 iH := ck
theorem H665 : Ow 133 665 := ch rfl fun n hp0 => bB bX K665 rfl (w665 (bd _ _ _ _) (G336 (by decide)) n hp0)
theorem K809 : Cp 159 eI := ck
theorem H809 : Ow 159 809 := sj rfl fun w nd hp0 nx lp ln m K h1 h2 h3 h4 hK => gM mj (by decide) rfl (fun _ => rfl) bX K809 rfl h1 h2 h3 h4 hK (w809 (bd _ _ _ _) w nd (D3 (Nat.le_of_eq (jf (c := fun _ => 2) h1).symm)) hp0)
theorem K946 : Cp 190 e7 := ck
theorem H946 : Ow 190 946 := ch rfl fun w es b => bB bX K946 rfl (w946 (bd _ _ _ _) w es b)
theorem K956 : Cp 212 jB := ck
theorem H956 : Ow 212 956 := ch rfl fun s w => bB bX K956 rfl (w956 (bd _ _ _ _) s w)
end
end Go.Abs
end
section
namespace Go.Abs
section
variable [cd]
theorem K72 : Cp 21 iP := ck
theorem H72 : Ow 21 72 := ch rfl fun r hp0 => bB bX K72 rfl (w72 (bd _ _ _ _) (G70 (by decide)) (Ha (by decide)) r hp0)
theorem K209 : Cp 42 j3 := ck
theorem H209 : Ow 42 209 := ch rfl fun v hp0 => bB bX K209 rfl (w209 (bd _ _ _ _) (G440 (by decide)) (G441 (by decide)) (He (by decide)) v hp0)
theorem K215 : Cp 48 jS := ck
theorem H215 : Ow 48 215 := ch rfl fun r hp0 => bB bX K215 rfl (w215 (bd _ _ _ _) (ET (by decide)) (G450 (by decide)) (Hg (by decide)) (G452 (by decide)) r hp0)
theorem K235 : Cp 57 eL := ck
theorem H235 : Ow 57 235 := ch rfl fun a b => bB bX K235 rfl (w235 (bd _ _ _ _) a b)
theorem K441 : Cp 83 j4 := ck
theorem H441 : Ow 83 441 := ch rfl fun s hp0 => bB bX K441 rfl (w441 (bd _ _ _ _) (He (by decide)) (CA (by decide)) (EU (by decide)) (G659 (by decide)) s hp0)
theorem K447 : Cp 90 gS := ck
theorem H447 : Ow 90 447 := ch rfl fun l => bB bX K447 rfl (w447 (bd _ _ _ _) l)
theorem K466 : Cp 62 gZ := ck
theorem H466 : Ow 62 466 := ch rfl fun s hp0 => bB bX K466 rfl (w466 (bd _ _ _ _) (Cz (by decide)) (Hg (by decide)) (CA (by decide)) (EU (by decide)) (G675 (by decide)) s hp0)
theorem K486 : Cp 108 iQ := ck
theorem H486 : Ow 108 486 := ch rfl fun a b => bB bX K486 rfl (w486 (bd _ _ _ _) a b)
theorem K659 : Cp 122 fk := ck
theorem H659 : Ow 122 659 := ch rfl fun t => bB bX K659 rfl (w659 (bd _ _ _ _) t)
theorem K675 : Cp 114 gv := ck
theorem H675 : Ow 114 675 := ch rfl fun s b => bB bX K675 rfl (w675 (bd _ _ _ _) s b)
theorem K810 : Cp 160 mQ := ck
theorem H810 : Ow 160 810 := ch rfl fun l => bB bX K810 rfl (w810 (bd _ _ _ _) (zk (by decide)) l)
theorem K947 : Cp 191 eJ := ck
theorem H947 : Ow 191 947 := sj rfl fun w nd b nx lp ln m K h1 h2 h3 h4 hK => zZ mj (by decide) rfl (fun _ => rfl) bX K947 rfl h1 h2 h3 h4 hK (w947 (bd _ _ _ _) w nd b (EX (by decide)))
theorem K957 : Cp 213 mG := ck
theorem H957 : Ow 213 957 := ch rfl fun op => bB bX K957 rfl (w957 (bd _ _ _ _) op)
end
end Go.Abs
end
section
namespace Go.Abs
section
variable [cd]
theorem K76 : Cp 13 iO := ck
theorem H76 : Ow 13 76 := ch rfl fun s => bB bX K76 rfl (w76 (bd _ _ _ _) (G70 (by decide)) (Cy (by decide)) (G222 (by decide)) s)
theorem K210 : Cp 43 jR := ck
theorem H210 : Ow 43 210 := ch rfl fun r n hp0 => bB bX K210 rfl (w210 (bd _ _ _ _) (G9 (by decide)) (zk (by decide)) (G443 (by decide)) r n hp0)
theorem K222 : Cp 29 dr := ck
theorem H222 : Ow 29 222 := FB rfl G2 fun r hp0 => we 2 bX K222 rfl rfl (w222 (bd _ _ _ _) (G466 (by decide)) (G467 (by decide)) (Hi (by decide)) (G469 (by decide)) (Hr (by decide)) r hp0)
theorem K236 : Cp 58 df := ck
theorem H236 : Ow 58 236 := ch rfl fun a b => bB bX K236 rfl (w236 (bd _ _ _ _) (G237 (by decide)) a b)
theorem K442 : Cp 84 iT := ck
theorem H442 : Ow 84 442 := ch rfl fun s hp0 => bB bX K442 rfl (w442 (bd _ _ _ _) (CA (by decide)) s hp0)
theorem K448 : Cp 91 iF := ck
theorem H448 : Ow 91 448 := ch rfl fun s hp0 => bB bX K448 rfl (w448 (bd _ _ _ _) (ES (by decide)) (G254 (by decide)) (zk (by decide)) (G487 (by decide)) s hp0)
theorem K467 : Cp 63 dT := ck
theorem H467 : Ow 63 467 := FB rfl G4 fun r hp0 => we 2 bX K467 rfl rfl (w467 (bd _ _ _ _) (Cy (by decide)) (Hh (by decide)) (Hi (by decide)) r hp0)
theorem K494 : Cp 150 iR := ck
theorem H494 : Ow 150 494 := ch rfl fun l x => bB bX K494 rfl (w494 (bd _ _ _ _) l x)
theorem K660 : Cp 125 e8 := ck
theorem H660 : Ow 125 660 := sj rfl fun w nd hp0 nx lp ln m K h1 h2 h3 h4 hK => gM mj (by decide) rfl (fun _ => rfl) bX K660 rfl h1 h2 h3 h4 hK (w660 (bd _ _ _ _) w nd (D3 (Nat.le_of_eq (jf (c := fun _ => 4) h1).symm)) hp0)
theorem K682 : Cp 154 kO := ck
theorem H682 : Ow 154 682 := ch rfl fun s hp0 => bB bX K682 rfl (w682 (bd _ _ _ _) (G819 (by decide)) s hp0)
theorem K811 : Cp 161 mP := ck
theorem H811 : Ow 161 811 := ch rfl fun l i hp0 => bB bX K811 rfl (w811 (bd _ _ _ _) (Hs (by decide)) l i (D4 (Nat.le_refl _)) (Ht (Nat.le_refl _)) hp0)
theorem K948 : Cp 192 fe := ck
theorem H948 : Ow 192 948 := sj rfl fun x w nd b hp0 nx lp ln m K h1 h2 h3 h4 hK => gM mj (by decide) rfl (fun _ => rfl) bX K948 rfl h1 h2 h3 h4 hK (w948 (bd _ _ _ _) x w nd b hp0)
theorem Hx : Cp 217 fU := ck
theorem Hv : Ow 217 1031 := sj rfl fun k w nd b hp0 nx lp ln m K h1 h2 h3 h4 hK => gM mj (by decide) rfl (fun _ => rfl) bX Hx rfl h1 h2 h3 h4 hK (Ib (bd _ _ _ _) k w nd b (zk (by decide)) (CB (by decide)) (CD (by decide)) (Hs (by decide)) hp0)
end
end Go.Abs
end
section
namespace Go.Abs
section
variable [cd]
theorem K78 : Cp 15 lr := ck
theorem H78 : Ow 15 78 := ch rfl fun a b => bB bX K78 rfl (w78 (bd _ _ _ _) (G225 (by decide)) (Hb (by decide)) a b)
theorem K211 : Cp 44 jT := ck
theorem H211 : Ow 44 211 := ch rfl fun r name rng hp0 => bB bX K211 rfl (w211 (bd _ _ _ _) (ES (by decide)) (G444 (by decide)) r name rng hp0)
theorem K225 : Cp 32 fY := ck
theorem H225 : Ow 32 225 := ch rfl fun a b => bB bX K225 rfl (w225 (bd _ _ _ _) (G477 (by decide)) a b)
theorem K237 : Cp 59 dW := ck
theorem H237 : Ow 59 237 := ch rfl fun a b => bB bX K237 rfl (w237 (bd _ _ _ _) (Hj (by decide)) a b)
theorem K443 : Cp 85 jU := ck
theorem H443 : Ow 85 443 := ch rfl fun r w al hp0 => bB bX K443 rfl (w443 (bd _ _ _ _) (G8 (by decide)) (zk (by decide)) r w al hp0)
theorem K449 : Cp 92 gR := ck
theorem H449 : Ow 92 449 := ch rfl fun l nm => bB bX K449 rfl (w449 (bd _ _ _ _) (G663 (by decide)) l nm)
theorem K468 : Cp 64 dV := ck
theorem H468 : Ow 64 468 := FB rfl G5 fun r hp0 => we 2 bX K468 rfl rfl (w468 (bd _ _ _ _) (Hh (by decide)) r hp0)
theorem K495 : Cp 123 jW := ck
theorem H495 : Ow 123 495 := ch rfl fun s hp0 => bB bX K495 rfl (w495 (bd _ _ _ _) (Cy (by decide)) (G682 (by decide)) (G683 (by decide)) (EV (by decide)) (G685 (by decide)) (Hq (by decide)) s hp0)
theorem K661 : Cp 126 oQ := ck
theorem H661 : Ow 126 661 := ch rfl fun m => bB bX K661 rfl (w661 (bd _ _ _ _) (Hm (by decide)) (G810 (by decide)) m)
theorem K684 : Cp 156 lu := ck
theorem H684 : Ow 156 684 := ch rfl fun r hp0 => bB bX K684 rfl (w684 (bd _ _ _ _) (ET (by decide)) (EW (by decide)) (Hp (by decide)) r hp0)
theorem K819 : Cp 180 mF := ck
theorem H819 : Ow 180 819 := ch rfl fun s hp0 => bB bX K819 rfl (w819 (bd _ _ _ _) (CA (by decide)) (EU (by decide)) (EW (by decide)) (Hp (by decide)) (G956 (by decide)) (Hu (by decide)) s hp0)
theorem K949 : Cp 193 eZ := ck
theorem H949 : Ow 193 949 := sj rfl fun w nd hp0 nx lp ln m K h1 h2 h3 h4 hK => gM mj (by decide) rfl (fun _ => rfl) bX K949 rfl h1 h2 h3 h4 hK (w949 (bd _ _ _ _) w nd (Hk (Nat.le_of_eq (jf (c := fun _ => 0) h1).symm)) (CB (by decide)) (CD (by decide)) (D5 (Nat.le_of_eq (jf (c := fun _ => 0) h1).symm)) (G7 (by decide)) hp0)
theorem Hy : Cp 10 eG := ck
theorem Hw : Ow 10 1195 := ch rfl fun a b => bB bX Hy rfl (Ic (bd _ _ _ _) (G68 (by decide)) (G69 (by decide)) (G78 (by decide)) (G80 (by decide)) a b)
end
end Go.Abs
end
namespace Go.Abs
def Cq : List (Nat × Nat) → Prop
 | [] => True
 | p :: r => Ow p.1 p.2 ∧ Cq r
theorem Cq.mem : ∀ {l : List (Nat × Nat)}, Cq l → ∀ p ∈ l, Ow p.1 p.2
 | p :: r, h, q, hq => by
  rcases List.mem_cons.1 hq with rfl | hq
  ·exact h.1
  ·exact h.2.mem q hq
theorem allY : Cq qH := ⟨Hw, H69, H76, H78, H70, H72, H68, H80, E124, H222, H225, H226, H208, H209, H210, H211, H212, H213, H214, H215, H207, H233, H234, H235, H236, H237, H465, H466, H467, H468, E469, H477, H440, H441, H442, H443, H349, H444, H445, H446, H447, H448, H449, H450, H451, E242, E452, H484, H485, H486, E245, H246, H675, H533, H658, H659, H495, H496, H660, H661, H662, E254, E487, H663, E489, E664, H665, H494, H682, E683, H684, H685, H808, H809, H810, H811, E336, H819, H827, H828, H946, H947, H948, H949, H950, H951, H956, H957, Hv, trivial⟩
theorem px : ∀ {l : List (Nat × Nat)} {a b : Nat}, cZ l a = some b → (a, b) ∈ l
 | [], _, _, h => by simp [cZ] at h
 | (c, d) :: r, a, b, h => by
  simp only [cZ] at h
  split at h
  ·rename_i e; simp_all
  ·exact .tail _ (px h)
theorem okY : Ok (Go.Proofs.Tryz.prog) qH AQ (ta bx) := okA (fun fid n hn => (show ∀ p ∈ qH, p.2 < 1000000 by decide) _ (px hn)) (fun t ht => by simp [AQ] at ht; show t = 133; omega) fun fid n hn => allY.mem (fid, n) (px hn)
end Go.Abs
section
namespace Go.Abs
open Go.RowKit Go.ChangeShapes
theorem dM.below {w w' : World} (h : dM w w') : Below w.heap.size w w' := ⟨h.os, h.tape, h.output, h.size, h.old⟩
section
variable {H : Type} {enc : TypeId × Value → H} {P : Program}
theorem tg {f : Func} {s : ChangeSpec} {apart fresh handsOn again : Bool} {W W' : World} {args : Array Value} {v : Value} {ds gs : List (DataW H)} {before pa pv : List MemPlace}
  (hW : DataW.Whole enc P f.params.toList s.vars apart W args.toList ds gs before)
  (hres : ∀ (b : Nat) (sp : Nat → Bool) (hd : Bool), DataW.TrodAll enc P W' b sp hd f.resultTypes.toList (v.resultList f.resultTypes.size) (s.fn H (ds ++ gs)).results [])
  (hargs : ∀ sp : Nat → Bool, (∀ p ∈ before, sp p.block = true) → DataW.TrodAll enc P W' 0 sp true f.params.toList args.toList (s.fn H (ds ++ gs)).args pa)
  (hvars : ∀ sp : Nat → Bool, (∀ p ∈ before, sp p.block = true) → DataW.TrodVars enc P W' sp s.vars (s.fn H (ds ++ gs)).vars pv)
  (hps : before = pa ++ pv) (hb : Below W.heap.size W W')
  (hok : ∀ (j : Nat) (t : TypeId) (r : Value), f.resultTypes[j]? = some t → (v.resultList f.resultTypes.size)[j]? = some r → Value.okWide P W' .any 0 t r) :
  s.post enc P f apart fresh handsOn again W args v W' := by
 have hold : ∀ p ∈ before, (fun b => decide (b < W.heap.size)) p.block = true := fun p hp => by simpa using hW.lt p hp
 refine ⟨ds, gs, before, [], pa, pv, hW, hres _ _ _, hargs _ hold, hvars _ hold, World.keptBut_mono (fun p hp => ⟨hp, ?_⟩) (hb.frame (· ∈ before)), fun _ => ?_⟩
 ·rw [hps, List.mem_append] at hp
  exact Or.inr hp
 ·have hlt := hW.lt
  obtain ⟨_, _, _, _, _, hz, hn⟩ := hW
  refine ⟨hok, _, _, ([] ++ pa) ++ pv, ⟨[] ++ pa, pv, trodAll_append (hargs _ (fun _ _ => rfl)) (hres _ _ _), hvars _ (fun _ _ => rfl), rfl, ?_, ?_⟩, ?_⟩
  ·intro b off hp
   have hmem : MemPlace.cell b off ∈ before := by rw [hps]; simpa using hp
   have hq := hz b off hmem
   have hl : b < W.heap.size := hlt _ hmem
   simpa only [World.frozen?, hb.block b hl] using hq
  ·intro ha
   have := hn ha
   rw [hps] at this
   simpa using this
  ·intro p hp _
   rw [hps]
   simpa using hp
end
end Go.Abs
end
section
namespace Go.Abs
inductive Lf
 | str
 | int (k : IntKind)
 | bool
 | sl (ag : Bool) (k : Nat) (cs : List Lf)
mutual
/-- a value that fits a leaf, of so much bulk -/
def fit : Lf → D → Nat → Prop
 | .str, d, n => ∃ s, d = .str s ∧ s.length + 1 ≤ n
 | .int k, d, n => (∃ m, d = .int k m ∧ (Lit.int k m).wf = true) ∧ 1 ≤ n
 | .bool, d, n => (∃ b, d = .bool b) ∧ 1 ≤ n
 | .sl ag k cs, d, n => ∃ es, d = .sl k es ∧ ∃ ns : List Nat, ns.length = es.length ∧ ns.sum + 1 ≤ n ∧ ∀ i, i < es.length → ∃ ds, es.getD i .any = (bif ag then .agg ds else ds.getD 0 .any) ∧ ei cs ds (ns.getD i 0)
def ei : List Lf → List D → Nat → Prop
 | [], ds, _ => ds = []
 | c :: r, ds, n => ∃ d ds' n1 n2, ds = d :: ds' ∧ n1 + n2 ≤ n ∧ fit c d n1 ∧ ei r ds' n2
end
theorem oG : ∀ {cs : List Lf} {ds : List D} {n : Nat}, ei cs ds n → ds.length = cs.length
 | [], ds, n, h => by simp only [ei] at h; simp [h]
 | c :: r, ds, n, h => by
  simp only [ei] at h
  obtain ⟨d, ds', n1, n2, rfl, _, _, h2⟩ := h
  simp [oG h2]
theorem qg : ∀ {a b : List Lf} {da db : List D} {n m : Nat}, ei a da n → ei b db m → ei (a ++ b) (da ++ db) (n + m)
 | [], b, da, db, n, m, h1, h2 => by
  simp only [ei] at h1; subst h1
  simp only [List.nil_append]
  exact fitL_mono h2 (by omega)
 | c :: r, b, da, db, n, m, h1, h2 => by
  simp only [ei] at h1
  obtain ⟨d, ds', n1, n2, rfl, h3, h4, h5⟩ := h1
  simp only [List.cons_append, ei]
  exact ⟨d, ds' ++ db, n1, n2 + m, rfl, by omega, h4, qg h5 h2⟩
where
 fitL_mono : ∀ {cs : List Lf} {ds : List D} {n m : Nat}, ei cs ds n → n ≤ m → ei cs ds m
 | [], _, _, _, h, _ => h
 | c :: r, ds, n, m, h, hm => by
  simp only [ei] at h ⊢
  obtain ⟨d, ds', n1, n2, rfl, h3, h4, h5⟩ := h
  exact ⟨d, ds', n1, n2, rfl, by omega, h4, h5⟩
theorem yD {c : Lf} {d : D} {n : Nat} (h : fit c d n) : d.cells = [d] ∧ d.aL = true := by
 cases c <;> simp only [fit] at h
 ·obtain ⟨s, rfl, _⟩ := h; exact ⟨rfl, rfl⟩
 ·obtain ⟨⟨m, rfl, _⟩, _⟩ := h; exact ⟨rfl, rfl⟩
 ·obtain ⟨⟨b, rfl⟩, _⟩ := h; exact ⟨rfl, rfl⟩
 ·obtain ⟨es, rfl, _⟩ := h; exact ⟨rfl, rfl⟩
theorem nT : ∀ {cs : List Lf} {ds : List D} {n : Nat}, ei cs ds n → aH ds = true
 | [], ds, n, h => by simp only [ei] at h; subst h; rfl
 | c :: r, ds, n, h => by
  simp only [ei] at h
  obtain ⟨d, ds', n1, n2, rfl, _, h1, h2⟩ := h
  simp only [aH, (yD h1).2, nT h2, Bool.and_self]
theorem zn (b o m j : Nat) : ((⟨b, o, none⟩ : Addr).add m).add j = ⟨b, o + m + j, none⟩ := by
 unfold Addr.add
 split <;> split <;> simp_all
section
variable {H : Type}
mutual
def dB : DataW H → Nat
 | .lit (.string s) => s.length + 1
 | .slice es _ => CR es + 1
 | .agg ps => CR ps
 | _ => 1
def CR : List (DataW H) → Nat
 | [] => 0
 | d :: r => dB d + CR r
end
theorem yy : ∀ ds : List (DataW H), CR ds = (ds.map dB).sum
 | [] => rfl
 | d :: r => by simp only [CR, List.map_cons, List.sum_cons, yy r]
end
def pJ (P : Program) (t : TypeId) : Bool := match P.underlying t with
 | some (.struct _) => true
 | some (.array _ _) => true
 | _ => false
def F3 (P : Program) (F : TypeId → Option (List Lf)) : List Field → Nat → Option (List Lf)
 | [], _ => some []
 | f :: r, off => match F f.type, F3 P F r (off + P.cellsOf f.type) with
  | some a, some b => if f.offset = off ∧ a.length = P.cellsOf f.type then some (a ++ b) else none
  | _, _ => none
def arrF (e : TypeId) (off : Nat) : Field := { (default : Field) with type := e, offset := off }
def tc (P : Program) : Nat → TypeId → Option (List Lf)
 | 0, _ => none
 | n + 1, t => match P.underlying t with
  | some .bool => some [.bool]
  | some (.int k) => some [.int k]
  | some .string => some [.str]
  | some (.slice e) => match tc P n e with
   | some cs => if cs.length = P.cellsOf e ∧ 0 < cs.length ∧ (pJ P e = true ∨ cs.length = 1) then some [.sl (pJ P e) (P.cellsOf e) cs] else none
   | none => none
  | some (.struct fs) => match F3 P (tc P n) fs.toList 0 with
   | some a => if a.length = P.cellsOf t then some a else none
   | none => none
  | some (.array k e) => match F3 P (tc P n) ((List.range k).map fun i => arrF e (i * P.cellsOf e)) 0 with
   | some a => if a.length = P.cellsOf t then some a else none
   | none => none
  | _ => none
section
variable {H : Type} {enc : TypeId × Value → H} {P : Program} {ν : List (Nat × Nat)}
def qL (W : World) : X := ⟨W, fun b => b < W.heap.size, fun _ => none⟩
def Rds (ν : List (Nat × Nat)) (W : World) (cs : List Value) (a : List Lf) (n : Nat) : Prop :=
 cs.length = a.length ∧ ∃ ds : List D, ei a ds n ∧ ∀ i, i < cs.length → RD ν (qL W) (cs.getD i undef) (ds.getD i .any) ∧ (cs.getD i undef).oneCell' = true
theorem Rds.one {W : World} {v : Value} {c : Lf} {d : D} {n : Nat} (hf : fit c d n) (hr : RD ν (qL W) v d) (h1 : v.oneCell' = true) : Rds ν W [v] [c] n :=
 ⟨rfl, [d], by simp only [ei]; exact ⟨d, [], n, 0, rfl, by omega, hf, rfl⟩, fun i hi => by
  obtain rfl : i = 0 := by simpa using hi
  exact ⟨hr, h1⟩⟩
theorem xQ {W : World} {F : TypeId → Option (List Lf)} {m : Nat} {sp : Nat → Bool} {held : Bool} {cs : List Value}
  (hF : ∀ t a cs (x : DataW H × List MemPlace), F t = some a → DataW.trod enc P W 0 sp held m t cs = some x → Rds ν W cs a (dB x.1)) :
  ∀ (r : List Field) (off : Nat) (a : List Lf) (xs : List (DataW H × List MemPlace)), F3 P F r off = some a → xs.length = r.length →
   (∀ (i : Nat) (f : Field), r[i]? = some f → DataW.trod enc P W 0 sp held m f.type ((cs.drop f.offset).take (P.cellsOf f.type)) = xs[i]?) → off + a.length ≤ cs.length →
   ∃ ds : List D, ei a ds (CR (xs.map (·.1))) ∧ ∀ i, i < a.length → RD ν (qL W) (cs.getD (off + i) undef) (ds.getD i .any) ∧ (cs.getD (off + i) undef).oneCell' = true
 | [], off, a, xs, h, hl, _, _ => by
  simp only [F3, Option.some.injEq] at h
  subst h
  exact ⟨[], rfl, fun i hi => by simp at hi⟩
 | f :: r, off, a, xs, h, hl, hx, hoff => by
  simp only [F3] at h
  split at h
  ·rename_i a1 a2 h1 h2
   split at h
   ·rename_i hc
    simp only [Option.some.injEq] at h
    subst h
    match xs, hl with
    | x :: xs, hl =>
    have q := hx 0 f rfl
    simp only [List.getElem?_cons_zero] at q
    obtain ⟨l1, ds1, g1, g2⟩ := hF _ _ _ _ h1 q
    simp only [List.length_append] at hoff
    have hlen : ((cs.drop f.offset).take (P.cellsOf f.type)).length = a1.length := by rw [← l1]
    obtain ⟨ds2, g3, g4⟩ := xQ hF r _ a2 xs h2 (by simpa using hl) (fun i f' hf => by simpa using hx (i + 1) f' (by simpa using hf)) (by omega)
    have hd1 := oG g1
    refine ⟨ds1 ++ ds2, by simp only [List.map_cons, CR]; exact qg g1 g3, fun i hi => ?_⟩
    simp only [List.length_append] at hi
    by_cases hi1 : i < a1.length
    ·have := g2 i (by omega)
     have e1 : (ds1 ++ ds2).getD i .any = ds1.getD i .any := by simp [List.getD, List.getElem?_append, hd1, hi1]
     have e2 : ((cs.drop f.offset).take (P.cellsOf f.type)).getD i undef = cs.getD (off + i) undef := by
      simp only [List.getD, List.getElem?_take, List.getElem?_drop, hc.1]
      rw [if_pos (by omega)]
     rw [e1, ← e2]; exact this
    ·have := g4 (i - a1.length) (by omega)
     have e1 : (ds1 ++ ds2).getD i .any = ds2.getD (i - a1.length) .any := by simp [List.getD, List.getElem?_append, hd1, hi1]
     rw [e1, show off + i = off + P.cellsOf f.type + (i - a1.length) by omega]; exact this
   ·cases h
  ·cases h
theorem rl {W : World} {sp : Nat → Bool} {held : Bool} : ∀ (fl : Nat) (t : TypeId) (a : List Lf) (fuel : Nat) (cs : List Value) (x : DataW H × List MemPlace),
  tc P fl t = some a → DataW.trod enc P W 0 sp held fuel t cs = some x → Rds ν W cs a (dB x.1)
 | 0, t, a, fuel, cs, x, h, _ => by simp [tc] at h
 | n + 1, t, a, fuel, cs, x, h, hx => by
  unfold tc at h
  split at h
  ·rename_i ht
   simp only [Option.some.injEq] at h; subst h
   obtain ⟨b, rfl, rfl⟩ := DataW.trod_bool ht hx
   exact .one (by simp only [fit]; exact ⟨⟨b, rfl⟩, by simp [dB]⟩) (.bool b) rfl
  ·rename_i k ht
   simp only [Option.some.injEq] at h; subst h
   obtain ⟨m, rfl, rfl, hw⟩ := DataW.trod_int ht hx
   exact .one (by simp only [fit]; exact ⟨⟨m, rfl, hw⟩, by simp [dB]⟩) (.int k m) rfl
  ·rename_i ht
   simp only [Option.some.injEq] at h; subst h
   obtain ⟨s, rfl, rfl, hs⟩ := DataW.trod_string ht hx
   obtain ⟨⟨l⟩⟩ := s
   exact .one (d := .str l) (by simp only [fit]; exact ⟨l, rfl, by simp [dB]⟩) (.str l hs) rfl
  ·rename_i e ht
   split at h
   ·rename_i ce hce
    split at h
    ·rename_i hk
     obtain ⟨hk1, hk0, hkag⟩ := hk
     simp only [Option.some.injEq] at h; subst h
     rcases DataW.trod_slice ht hx with ⟨rfl, rfl⟩ | ⟨ad, len, cap, elems, rest, m, rfl, rfl, rfl, hb, hlc, hcm, hel, hat, _, _⟩
     ·refine .one (d := .sl (P.cellsOf e) []) (by simp only [fit]; exact ⟨[], rfl, [], rfl, by simp [dB], fun i hi => by simp at hi⟩) ?_ rfl
      exact .sl none 0 0 0 0 _ [] (fun _ _ => undef) rfl (.inl rfl) (Nat.le_refl _) (Nat.zero_le _) (fun i hi => by omega) (fun i hi => by omega) (fun i j hi => by omega) (fun i j hi => by omega) (fun i j hi => by omega)
     ·have key : ∀ i, i < len → ∃ (csi : List Value) (dsi : List D), (csi.length = ce.length ∧ ∀ j, j < P.cellsOf e → W.cell? ((ad.add (i * P.cellsOf e)).add j) = csi[j]?) ∧ ei ce dsi (dB (elems.getD i (.nil, [])).1) ∧
        ∀ j, j < csi.length → RD ν (qL W) (csi.getD j undef) (dsi.getD j .any) ∧ (csi.getD j undef).oneCell' = true := by
       intro i hi
       have q := hat i hi
       have hgi : elems[i]? = some (elems.getD i (.nil, [])) := by simp [List.getD, show i < elems.length by omega]
       rw [hgi, Option.bind_eq_some_iff] at q
       obtain ⟨csi, q1, q2⟩ := q
       obtain ⟨l1, dsi, g1, g2⟩ := rl n e ce m csi _ hce q2
       obtain ⟨_, _, q3⟩ := World.cells?_some q1
       exact ⟨csi, dsi, ⟨l1, q3⟩, g1, g2⟩
      let f : Nat → List Value × List D := fun i => if h : i < len then ((key i h).choose, (key i h).choose_spec.choose) else ([], [])
      have hf : ∀ i, i < len → ((f i).1.length = ce.length ∧ ∀ j, j < P.cellsOf e → W.cell? ((ad.add (i * P.cellsOf e)).add j) = (f i).1[j]?) ∧ ei ce (f i).2 (dB (elems.getD i (.nil, [])).1) ∧
        ∀ j, j < (f i).1.length → RD ν (qL W) ((f i).1.getD j undef) ((f i).2.getD j .any) ∧ ((f i).1.getD j undef).oneCell' = true := by
       intro i hi
       have e1 : f i = ((key i hi).choose, (key i hi).choose_spec.choose) := by simp [f, hi]
       rw [e1]
       exact (key i hi).choose_spec.choose_spec
      let es : List D := (List.range len).map fun i => bif pJ P e then .agg (f i).2 else (f i).2.getD 0 .any
      have hes : ∀ i, i < len → es.getD i .any = bif pJ P e then .agg (f i).2 else (f i).2.getD 0 .any := fun i hi => by simp [es, hi]
      have hcells : ∀ i, i < len → (es.getD i .any).cells = (f i).2 := fun i hi => by
       rw [hes i hi]
       cases hag : pJ P e with
       | true => rfl
       | false =>
        have h1 : ce.length = 1 := by
         rcases hkag with h | h
         ·rw [hag] at h; cases h
         ·exact h
        match ce, h1 with
        | [c], _ =>
        have g := (hf i hi).2.1
        simp only [ei] at g
        obtain ⟨d, ds', n1, n2, e1, _, g1, rfl⟩ := g
        rw [e1]
        exact (yD g1).1
      have hnl : ∀ i, i < len → (es.getD i .any).aL = true := fun i hi => by
       have g := nT (hf i hi).2.1
       rw [hes i hi]
       cases hag : pJ P e with
       | true => exact g
       | false =>
        show ((f i).2.getD 0 .any).aL = true
        match hq : (f i).2 with
        | [] => rfl
        | d :: r =>
         rw [hq] at g
         simp only [aH, Bool.and_eq_true] at g
         exact g.1
      refine .one (d := .sl (P.cellsOf e) es) ?_ ?_ rfl
      ·simp only [fit]
       refine ⟨es, rfl, elems.map fun q => dB q.1, by simp [es, hel], by simp only [dB, yy, List.map_map]; exact Nat.le_refl _, fun i hi => ?_⟩
       have hi' : i < len := by simpa [es] using hi
       refine ⟨(f i).2, hes i hi', ?_⟩
       have := (hf i hi').2.1
       have e2 : (elems.map fun q => dB q.1).getD i 0 = dB (elems.getD i (.nil, [])).1 := by simp [List.getD, show i < elems.length by omega]
       rw [e2]; exact this
      ·have hfl : ∀ i, i < len → (f i).1.length = P.cellsOf e := fun i hi => by rw [(hf i hi).1.1, hk1]
       have hdl : ∀ i, i < len → (f i).2.length = P.cellsOf e := fun i hi => by rw [oG (hf i hi).2.1, hk1]
       have hcell : ∀ i j, i < len → j < P.cellsOf e → W.cell? ((ad.add (i * P.cellsOf e)).add j) = some ((f i).1.getD j undef) := fun i j hi hj => by
        rw [(hf i hi).1.2 j hj]
        simp [List.getD, show j < (f i).1.length by rw [hfl i hi]; exact hj]
       have hsp : es = [] ∨ (ad.spot = none ∧ ad.block < W.heap.size) := by
        by_cases h0 : len = 0
        ·left; simp [es, h0]
        ·right
         have h1 := hcell 0 0 (by omega) (by omega)
         have e3 : (ad.add (0 * P.cellsOf e)).add 0 = ad := by simp [Addr.add]
         rw [e3] at h1
         refine ⟨World.cell?_spot h1, ?_⟩
         unfold World.cell? at h1
         split at h1
         ·rename_i h2
          exact (Array.getElem?_eq_some_iff.mp h2).1
         ·cases h1
       obtain ⟨ab, ao, asp⟩ := ad
       refine .sl (some ⟨ab, ao, asp⟩) ab ao len cap _ es (fun i j => (f i).1.getD j undef) (by simp [es]) ?_ hlc hcm (fun i hi => by rw [hcells i hi, hdl i hi]) hnl ?_ ?_ ?_
       ·rcases hsp with h | ⟨h, h2⟩
        ·exact .inl h
        ·obtain rfl : asp = none := h
         exact .inr ⟨rfl, h2⟩
       ·intro i j hi hj
        have h1 := hcell i j hi hj
        rcases hsp with h | ⟨h, h2⟩
        ·have : es.length = 0 := by rw [h]; rfl
         simp [es] at this; omega
        ·obtain rfl : asp = none := h
         rwa [zn] at h1
       ·intro i j hi hj
        exact ((hf i hi).2.2 j (by rw [hfl i hi]; exact hj)).2
       ·intro i j hi hj
        rw [hcells i hi]
        exact ((hf i hi).2.2 j (by rw [hfl i hi]; exact hj)).1
    ·cases h
   ·cases h
  ·rename_i fs ht
   split at h
   ·rename_i b hb
    split at h
    ·rename_i hlen
     simp only [Option.some.injEq] at h; subst h
     obtain ⟨xs, m, rfl, rfl, hcl, hxl, hat⟩ := DataW.trod_struct ht hx
     obtain ⟨ds, g1, g2⟩ := xQ (W := W) (ν := ν) (sp := sp) (held := held) (enc := enc) (m := m) (cs := cs) (fun t a cs x h1 h2 => rl n t a m cs x h1 h2) fs.toList 0 b xs hb (by simpa using hxl) (fun i f hf => hat i f (by simpa using hf)) (by omega)
     refine ⟨by omega, ds, by simpa only [dB] using g1, fun i hi => ?_⟩
     have := g2 i (by omega)
     rwa [Nat.zero_add] at this
    ·cases h
   ·cases h
  ·rename_i k e ht
   split at h
   ·rename_i b hb
    split at h
    ·rename_i hlen
     simp only [Option.some.injEq] at h; subst h
     obtain ⟨xs, m, rfl, rfl, hcl, hxl, hat⟩ := DataW.trod_array ht hx
     obtain ⟨ds, g1, g2⟩ := xQ (W := W) (ν := ν) (sp := sp) (held := held) (enc := enc) (m := m) (cs := cs) (fun t a cs x h1 h2 => rl n t a m cs x h1 h2) _ 0 b xs hb (by simpa using hxl) (fun i f hf => by
      simp only [List.getElem?_map, Option.map_eq_some_iff] at hf
      obtain ⟨j, hj, rfl⟩ := hf
      have hi : i < k := by
       have := (List.getElem?_eq_some_iff.1 hj).1
       simpa using this
      obtain rfl : j = i := by simpa [hi] using hj.symm
      exact hat j hi) (by omega)
     refine ⟨by omega, ds, by simpa only [dB] using g1, fun i hi => ?_⟩
     have := g2 i (by omega)
     rwa [Nat.zero_add] at this
    ·cases h
   ·cases h
  ·cases h
end
end Go.Abs
end
section
namespace Go.Abs
open Go.RowKit Go.ChangeShapes Go.WideShapes
def xn (sh : Bool × List Lf) (d : D) (n : Nat) : Prop := ∃ ds, ei sh.2 ds n ∧ d = bif sh.1 then .agg ds else ds.getD 0 .any
def qP : List (Bool × List Lf) → List D → Nat → Prop
 | [], ds, _ => ds = []
 | s :: r, ds, n => ∃ d ds' n1 n2, ds = d :: ds' ∧ n1 + n2 ≤ n ∧ xn s d n1 ∧ qP r ds' n2
def kG (P : Program) (k : Nat) : List TypeId → Option (List (Bool × List Lf))
 | [] => some []
 | t :: r => match tc P k t, kG P k r with
  | some a, some b => if pJ P t = true ∨ a.length = 1 then some ((pJ P t, a) :: b) else none
  | _, _ => none
section
variable {H : Type} {enc : TypeId × Value → H} {P : Program} {ν : List (Nat × Nat)}
theorem E3 {W : World} {sp : Nat → Bool} {held : Bool} {k base : Nat} {t : TypeId} {a : List Lf} {v : Value} {d : DataW H} {p : List MemPlace} {r : Reach}
  (ha : tc P k t = some a) (h1 : pJ P t = true ∨ a.length = 1) (qD : Value.okWide P W r base t v) (h : DataW.Trod enc P W 0 sp held t v d p) :
  ∃ e, xn (pJ P t, a) e (dB d) ∧ e.aL = true ∧ RD ν (qL W) v e := by
 obtain ⟨fuel, hf⟩ := h
 obtain ⟨hl, ds, g1, g2⟩ := rl (ν := ν) k t a fuel v.cells.toList (d, p) ha hf
 have hdl := oG g1
 have hnl := nT g1
 refine ⟨_, ⟨ds, g1, rfl⟩, ?_⟩
 cases hag : pJ P t with
 | true =>
  have : ∃ cs, v = .agg cs ∧ cs.size = P.cellsOf t := by
   match k, ha with
   | n + 1, ha =>
   unfold tc at ha
   unfold pJ at hag
   split at ha
   ·simp_all
   ·simp_all
   ·simp_all
   ·simp_all
   ·rename_i fs ht; exact okWide_struct ht qD
   ·rename_i m e ht
    simp only [Value.okWide, ht] at qD
    obtain ⟨cs, h1, h2, _⟩ := qD
    exact ⟨cs, h1, h2⟩
   ·simp_all
  obtain ⟨cs, rfl, hcs⟩ := this
  refine ⟨hnl, ?_⟩
  have hl' : cs.size = a.length := by simpa [Value.cells] using hl
  have e : ∀ i, (Value.agg cs).cells.toList.getD i undef = cs.getD i undef := fun i => by
   simp only [Value.cells]
   by_cases hi : i < cs.size <;> simp [List.getD, Array.getD, hi]
  refine .agg cs ds (by omega) (fun i hi => ?_) fun i hi => ?_
  ·rw [← e]; exact (g2 i (by simp only [Value.cells, Array.length_toList]; omega)).2
  ·rw [← e]; exact (g2 i (by simp only [Value.cells, Array.length_toList]; omega)).1
 | false =>
  have h1 : a.length = 1 := by
   rcases h1 with h | h
   ·rw [hag] at h; cases h
   ·exact h
  have hv : v.cells.toList.getD 0 undef = v := by
   match k, ha with
   | n + 1, ha =>
   unfold tc at ha
   unfold pJ at hag
   split at ha
   ·rename_i ht; obtain ⟨b, rfl⟩ := okWide_bool ht qD; rfl
   ·rename_i k ht; obtain ⟨b, rfl⟩ := okWide_int ht qD; rfl
   ·rename_i ht; obtain ⟨b, rfl⟩ := okWide_string ht qD; rfl
   ·rename_i e ht; obtain ⟨b, c, f, rfl⟩ := okWide_slice ht qD; rfl
   ·rename_i fs ht; rw [ht] at hag; cases hag
   ·rename_i m e ht; rw [ht] at hag; cases hag
   ·cases ha
  have g := g2 0 (by omega)
  rw [hv] at g
  refine ⟨?_, g.1⟩
  match ds, hdl with
  | [d0], _ => simpa [aH] using hnl
  | [], h => simp at h; omega
  | _ :: _ :: _, h => simp at h; omega
theorem yt {W : World} {sp : Nat → Bool} {held : Bool} {k base : Nat} {r : Reach} : ∀ (ts : List TypeId) (shs : List (Bool × List Lf)) (vs : List Value) (dws : List (DataW H)) (ps : List MemPlace),
  kG P k ts = some shs → (∀ (j : Nat) t v, ts[j]? = some t → vs[j]? = some v → Value.okWide P W r base t v) → DataW.TrodAll enc P W 0 sp held ts vs dws ps →
  ∃ es : List D, qP shs es (CR dws) ∧ es.length = vs.length ∧ dws.length = ts.length ∧ aH es = true ∧ ∀ i, i < es.length → RD ν (qL W) (vs.getD i undef) (es.getD i .any)
 | [], shs, vs, dws, ps, hs, _, h => by
  simp only [kG, Option.some.injEq] at hs
  subst hs
  obtain ⟨rfl, rfl, rfl⟩ := trodAll_nil h
  exact ⟨[], rfl, rfl, rfl, rfl, fun i hi => by simp at hi⟩
 | t :: ts, shs, vs, dws, ps, hs, hv, h => by
  simp only [kG] at hs
  split at hs
  ·rename_i a b h1 h2
   split at hs
   ·rename_i hc
    simp only [Option.some.injEq] at hs
    subst hs
    obtain ⟨v, vs', d, ds', p, q, rfl, rfl, rfl, h3, h4⟩ := trodAll_cons h
    obtain ⟨e, g1, g2, g3⟩ := E3 (ν := ν) h1 hc (hv 0 t v rfl rfl) h3
    obtain ⟨es, k1, k2, k3, k4, k5⟩ := yt ts b vs' ds' q h2 (fun j t v h5 h6 => hv (j + 1) t v (by simpa using h5) (by simpa using h6)) h4
    refine ⟨e :: es, ⟨e, es, _, _, rfl, Nat.le_refl _, g1, k1⟩, by simp [k2], by simp [k3], by simp [aH, g2, k4], fun i hi => ?_⟩
    match i, hi with
    | 0, _ => exact g3
    | i + 1, hi => exact k5 i (by simpa using hi)
   ·cases hs
  ·cases hs
theorem nE {W W' : World} (hl : laidOutB P = true) (hb : Below W.heap.size W W') {sp' : Nat → Bool} : ∀ (ts : List TypeId) (vs : List Value) (dws : List (DataW H)) (ps : List MemPlace),
  (ts.all fun t => P.readableRec t && decide (t < P.types.size)) = true → (∀ x ∈ ps, x.block < W.heap.size) → (∀ x ∈ ps, sp' x.block = true) →
  DataW.TrodAll enc P W 0 (fun _ => true) true ts vs dws ps → DataW.TrodAll enc P W' 0 sp' true ts vs dws ps
 | [], vs, dws, ps, _, _, _, h => by
  obtain ⟨rfl, rfl, rfl⟩ := trodAll_nil h
  exact trodAll_mk0
 | t :: ts, vs, dws, ps, ht, hlt, hsp, h => by
  obtain ⟨v, vs', d, ds', p, q, rfl, rfl, rfl, h3, h4⟩ := trodAll_cons h
  simp only [List.all_cons, Bool.and_eq_true, decide_eq_true_eq] at ht
  refine trodAll_cons_mk (WideElems.Trod_stays hl ht.1.1 ht.1.2 h3 (fun x hx => hb.same (hlt x (by simp [hx]))) fun x hx => hsp x (by simp [hx])) ?_
  exact nE hl hb ts vs' ds' q ht.2 (fun x hx => hlt x (by simp [hx])) (fun x hx => hsp x (by simp [hx])) h4
end
end Go.Abs
end
namespace Go.Abs
theorem CX {c : Lf} {d : D} {n : Nat} (h : fit c d n) : 1 ≤ n := by
 cases c <;> simp only [fit] at h
 ·obtain ⟨s, _, h⟩ := h; omega
 ·exact h.2
 ·exact h.2
 ·obtain ⟨es, _, ns, _, h, _⟩ := h; omega
theorem y7 : ∀ (ns : List Nat) (i : Nat), i < ns.length → ns.getD i 0 ≤ ns.sum
 | a :: r, 0, _ => by simp
 | a :: r, i + 1, h => by
  have := y7 r i (by simpa using h)
  simp only [List.getD_cons_succ, List.sum_cons]; omega
theorem y8 : ∀ (ns : List Nat), (∀ i, i < ns.length → 1 ≤ ns.getD i 0) → ns.length ≤ ns.sum
 | [], _ => by simp
 | a :: r, h => by
  have h0 := h 0 (by simp)
  have := y8 r fun i hi => h (i + 1) (by simpa using hi)
  simp only [List.getD_cons_zero] at h0
  simp only [List.length_cons, List.sum_cons]; omega
theorem sG {α : Type} {q : α → D} {G : α → Prop} {ag : Bool} {k : Nat} {cs : List Lf} {d : D} {n : Nat} (hcs : cs ≠ [])
  (hd : ∀ ds m, m ≤ n → ei cs ds m → ∃ x, (bif ag then D.agg ds else ds.getD 0 .any) = q x ∧ G x) (h : fit (.sl ag k cs) d n) :
  ∃ xs : List α, d = .sl k (xs.map q) ∧ xs.length + 1 ≤ n ∧ ∀ x ∈ xs, G x := by
 simp only [fit] at h
 obtain ⟨es, rfl, ns, hl, hs, he⟩ := h
 have hone : ∀ i, i < ns.length → 1 ≤ ns.getD i 0 := fun i hi => by
  obtain ⟨ds, _, h2⟩ := he i (by omega)
  match cs, hcs with
  | c :: r, _ =>
  simp only [ei] at h2
  obtain ⟨d, ds', n1, n2, _, h3, h4, _⟩ := h2
  have := CX h4; omega
 have hlen := y8 ns hone
 have key : ∀ i, i < es.length → ∃ x, es.getD i .any = q x ∧ G x := fun i hi => by
  obtain ⟨ds, h1, h2⟩ := he i hi
  obtain ⟨x, h3, h4⟩ := hd ds _ (by have := y7 ns i (by omega); omega) h2
  exact ⟨x, h1.trans h3, h4⟩
 have conv : ∀ es : List D, (∀ i, i < es.length → ∃ x, es.getD i .any = q x ∧ G x) → ∃ xs : List α, es = xs.map q ∧ ∀ x ∈ xs, G x := by
  intro es
  induction es with
  | nil => exact fun _ => ⟨[], rfl, fun x hx => by cases hx⟩
  | cons e r ih =>
   intro h
   obtain ⟨x, h1, h2⟩ := h 0 (by simp)
   obtain ⟨xs, h3, h4⟩ := ih fun i hi => by simpa using h (i + 1) (by simpa using hi)
   simp only [List.getD_cons_zero] at h1
   refine ⟨x :: xs, by rw [h3, h1]; rfl, fun y hy => ?_⟩
   rcases List.mem_cons.1 hy with rfl | hy
   ·exact h2
   ·exact h4 y hy
 obtain ⟨xs, rfl, hx⟩ := conv es key
 refine ⟨xs, rfl, ?_, hx⟩
 simp only [List.length_map] at hl
 omega
theorem wW {d : D} {n : Nat} (h : fit (.sl false 1 [.str]) d n) : ∃ xs : List aq, d = .sl 1 (xs.map D.str) ∧ xs.length + 1 ≤ n ∧ ∀ x ∈ xs, x.length + 1 ≤ n :=
 sG (q := D.str) (G := fun x => x.length + 1 ≤ n) (by simp) (fun ds m hm h => by
  simp only [ei, fit] at h
  obtain ⟨d, ds', n1, n2, rfl, _, ⟨x, rfl, _⟩, rfl⟩ := h
  exact ⟨x, rfl, by omega⟩) h
end Go.Abs
section
namespace Go.Abs
open Go.RowKit Go.ChangeShapes Go.WideShapes
theorem ctxp {t : List (Nat × nG)} {n : Nat} {ds : List D} {d : D} (hD : G6 (lk t n ji).rel) (h : (lk t n ji).rel ds d) : (ta t).pre n ds ∧ (ta t).val n ds = d := ⟨⟨d, h⟩, hD _ _ _ (gL ⟨d, h⟩) h⟩
def zf : List Lf := [.str, .str, .sl false 1 [.str], .bool]
def yN : List Lf := [.sl true 4 zf, .str, .str]
def CJ : List Lf := [.str, .str, .str]
def yC : List Lf := [.str, .sl false 1 [.str]]
def z8 : List Lf := [.str, .int .i64, .int .i64, .int .i64, .str, .str, .sl true 3 yN, .sl true 3 CJ, .sl true 2 yC]
theorem Cc {ds : List D} {n : Nat} (h : ei zf ds n) : ∃ x : aR, D.agg ds = x.D ∧ True := by
 simp only [zf, ei] at h
 obtain ⟨d1, _, m1, r1, rfl, a1, h1, d2, _, m2, r2, rfl, a2, h2, d3, _, m3, r3, rfl, a3, h3, d4, _, m4, r4, rfl, a4, h4, rfl⟩ := h
 obtain ⟨xs, rfl, b1, b2⟩ := wW h3
 simp only [fit] at h1 h2 h4
 obtain ⟨s1, rfl, c1⟩ := h1
 obtain ⟨s2, rfl, c2⟩ := h2
 obtain ⟨⟨s4, rfl⟩, c4⟩ := h4
 exact ⟨⟨s1, s2, xs, s4⟩, rfl, trivial⟩
theorem Bj {ds : List D} {n : Nat} (h : ei yN ds n) : ∃ x : aJ, D.agg ds = x.D ∧ True := by
 simp only [yN, ei] at h
 obtain ⟨d1, _, m1, r1, rfl, a1, h1, d2, _, m2, r2, rfl, a2, h2, d3, _, m3, r3, rfl, a3, h3, rfl⟩ := h
 obtain ⟨xs, rfl, b1, b2⟩ := sG (ag := true) (q := aR.D) (G := fun _ => True) (by simp [zf]) (fun ds m hm h => Cc h) h1
 simp only [fit] at h2 h3
 obtain ⟨s2, rfl, c2⟩ := h2
 obtain ⟨s3, rfl, c3⟩ := h3
 exact ⟨⟨xs, s2, s3⟩, rfl, trivial⟩
theorem CL {ds : List D} {n : Nat} (h : ei CJ ds n) : ∃ x : ec, D.agg ds = x.D ∧ True := by
 simp only [CJ, ei] at h
 obtain ⟨d1, _, m1, r1, rfl, a1, h1, d2, _, m2, r2, rfl, a2, h2, d3, _, m3, r3, rfl, a3, h3, rfl⟩ := h
 simp only [fit] at h1 h2 h3
 obtain ⟨s1, rfl, c1⟩ := h1
 obtain ⟨s2, rfl, c2⟩ := h2
 obtain ⟨s3, rfl, c3⟩ := h3
 exact ⟨⟨s1, s2, s3⟩, rfl, trivial⟩
theorem AU {ds : List D} {n : Nat} (h : ei yC ds n) : ∃ x : ba, D.agg ds = x.D ∧ True := by
 simp only [yC, ei] at h
 obtain ⟨d1, _, m1, r1, rfl, a1, h1, d2, _, m2, r2, rfl, a2, h2, rfl⟩ := h
 obtain ⟨xs, rfl, b1, b2⟩ := wW h2
 simp only [fit] at h1
 obtain ⟨s1, rfl, c1⟩ := h1
 exact ⟨⟨s1, xs⟩, rfl, trivial⟩
theorem yX {d : D} {n : Nat} (h : xn (true, z8) d n) : ∃ r : Rec, d = r.D := by
 obtain ⟨ds, h, rfl⟩ := h
 simp only [z8, ei] at h
 obtain ⟨d1, _, m1, r1, rfl, a1, h1, d2, _, m2, r2, rfl, a2, h2, d3, _, m3, r3, rfl, a3, h3, d4, _, m4, r4, rfl, a4, h4, d5, _, m5, r5, rfl, a5, h5, d6, _, m6, r6, rfl, a6, h6, d7, _, m7, r7, rfl, a7, h7, d8, _, m8, r8, rfl, a8, h8, d9, _, m9, r9, rfl, a9, h9, rfl⟩ := h
 obtain ⟨x7, rfl, _, _⟩ := sG (ag := true) (q := aJ.D) (G := fun _ => True) (by simp [yN]) (fun ds m hm h => Bj h) h7
 obtain ⟨x8, rfl, _, _⟩ := sG (ag := true) (q := ec.D) (G := fun _ => True) (by simp [CJ]) (fun ds m hm h => CL h) h8
 obtain ⟨x9, rfl, _, _⟩ := sG (ag := true) (q := ba.D) (G := fun _ => True) (by simp [yC]) (fun ds m hm h => AU h) h9
 simp only [fit] at h1 h2 h3 h4 h5 h6
 obtain ⟨s1, rfl, c1⟩ := h1
 obtain ⟨⟨s2, rfl, _⟩, c2⟩ := h2
 obtain ⟨⟨s3, rfl, _⟩, c3⟩ := h3
 obtain ⟨⟨s4, rfl, _⟩, c4⟩ := h4
 obtain ⟨s5, rfl, c5⟩ := h5
 obtain ⟨s6, rfl, c6⟩ := h6
 exact ⟨⟨s1, ⟨s2, s3, s4, s5, s6⟩, x7, x8, x9⟩, rfl⟩
section
variable {H : Type} {enc : TypeId × Value → H} {P : Program} {ν : List (Nat × Nat)}
theorem xO [cd] {bM : List Nat} {Γ : Ctx} (hok : Ok P ν bM Γ) {fid n k base : Nat} {f : Func} {s : ChangeSpec} {tb : TypeId} {shs : List (Bool × List Lf)} {r : Reach}
  {W : World} {args : Array Value} {ds gs : List (DataW H)} {before : List MemPlace}
  (hf : P.funcs[fid]? = some f) (hnm : (f.name == "runtime.NumGoroutine") = false) (hbody : f.body.isSome = true) (hn : cZ ν fid = some n)
  (hl : laidOutB P = true) (hts : (f.params.toList.all fun t => P.readableRec t && decide (t < P.types.size)) = true)
  (hsh : kG P k f.params.toList = some shs) (hres : f.resultTypes = #[tb]) (htb : P.underlying tb = some .bool)
  (hvars : s.vars = []) (hfn : ∀ xs : List (DataW H), xs.length = f.params.toList.length → s.fn H xs = { results := [.lit (.bool true)], args := xs })
  (hgd : cd.gd (qL W)) (hpre : ∀ es, qP shs es (CR ds) → (∀ i, i < es.length → ∃ v, RD ν (qL W) v (es.getD i .any)) → Γ.pre n es ∧ Γ.val n es = .bool true)
  (hargs : ∀ (j : Nat) t v, f.params[j]? = some t → args[j]? = some v → Value.okWide P W r base t v)
  (hW : DataW.Whole enc P f.params.toList s.vars false W args.toList ds gs before) :
  Calls P fid args W fun e W' => ∃ v, e = .returned v ∧ s.post enc P f false true false false W args v W' := by
 have hW' := hW
 obtain ⟨p, q, hA, hV, rfl, hz, hnd⟩ := hW
 rw [hvars] at hV
 obtain ⟨rfl, rfl⟩ := trodVars_none hV
 obtain ⟨es, h1, h2, h3, h4, h5⟩ := yt (ν := ν) f.params.toList shs args.toList ds p hsh (fun j t v e1 e2 => hargs j t v (by simpa using e1) (by simpa using e2)) hA
 have hsz : args.size = es.length := by simpa using h2.symm
 obtain ⟨hp1, hp2⟩ := hpre es h1 fun i hi => ⟨_, h5 i hi⟩
 have hd := hok.pure fid n hn (qL W) args es hsz (fun i hi => by
  have := h5 i hi
  have e : args.toList.getD i undef = args.getD i undef := by
   have hi' : i < args.size := by omega
   simp [List.getD, Array.getD, hi']
  rwa [e] at this) h4 (fun b hb => hb) hgd hp1
 rw [ep hf hnm hbody args] at hd
 rcases hd with ⟨v, x', hd | hd, _⟩ | ⟨f', args', hd, hc⟩
 ·cases hd
 ·cases hd.1
 ·cases hd
  refine Calls.mono hc fun e W' he => ?_
  match e, he with
  | .returned v, he =>
   obtain ⟨x', rfl, hp, hr⟩ := he
   rw [hp2] at hr
   obtain rfl : v = .bool true := by cases hr; rfl
   have hb : Below W.heap.size W x'.w := hp.grow.below
   have hlt := hW'.lt
   have e1 : s.fn H (ds ++ []) = { results := [.lit (.bool true)], args := ds } := by rw [List.append_nil]; exact hfn ds h3
   refine ⟨_, rfl, tg (pa := p) (pv := []) hW' (fun b sp hd => ?_) (fun sp hsp => ?_) (fun sp hsp => ?_) rfl hb (ok_one hres rfl (okWide_bool_mk htb _))⟩
   ·rw [e1, hres]
    exact trodAll_mk1 (shut_bool htb _)
   ·rw [e1]
    exact nE hl hb _ _ _ _ hts (fun x hx => by simpa using hlt x (by simpa using hx)) (fun x hx => hsp x (by simpa using hx)) hA
   ·rw [e1, hvars]; rfl
end
end Go.Abs
end
section
namespace Go.Proofs.YtpdlhpamcaocgaaGreatDoor
open Go.Abs Go.ChangeShapes Go.WideShapes Go.ChangeAt Go.RowKit Go.Proofs
theorem own : ownKnob Tryz.prog.godebug = none := by kernel_rfl
theorem Bb : laidOutB Tryz.prog = true := by kernel_rfl
theorem oO {P : Program} {W : World} {y : String × DataW Unit} {l : List (String × DataW Unit)} (h : laidMet P (y :: l) W) : laidMet P l W := by
 obtain ⟨ps, ⟨g, t, cs, fuel, p, q, _, _, _, _, h1, rfl⟩, h2, h3⟩ := h
 refine ⟨q, h1, (List.nodup_append.1 h2).2.1, fun b off hm => h3 b off (by simp [hm])⟩
theorem yM {W : World} {b : Nat} {o : Nat} {v : Value} (h : W.cell? ⟨b, o, none⟩ = some v) : b < W.heap.size := by
 unfold World.cell? at h
 split at h
 ·rename_i h2
  exact (Array.getElem?_eq_some_iff.mp h2).1
 ·cases h
theorem HI {W : World} (hL : laidMetH Tryz.prog Rows.recordSameRow.laid W) (hsh : W.ShapedOpen Tryz.prog) : cd.gd (qL W) := by
 have hL' : laidMet Tryz.prog Rows.recordSameRow.laid W := hL
 have htab : Lib.TabIs Tryz.prog W "internal/strconv.uint64pow10" .u64 Lib.pow10Tab :=
  Lib.tabIs_of_head (g := 3) (t := 244) (e := 49) (n := 20) (by kernel_rfl) (by kernel_rfl) (by kernel_rfl) (by kernel_rfl) (by kernel_rfl) (by kernel_rfl) (oO (oO hL'))
 obtain ⟨m, hm⟩ : ∃ m, W.cell? ⟨0, 0, none⟩ = some (.int .i64 m) := Tryz.laysM219.s1_3 W hsh
 have h3 := htab.cell qq 0 (by decide)
 exact ⟨⟨yM hm, m, hm⟩, yM h3, htab⟩
mutual
def vT {H : Type} : DataW H → List Value
 | .lit (.int k n) => [.int k n]
 | .agg ps => AO ps
 | _ => []
def AO {H : Type} : List (DataW H) → List Value
 | [] => []
 | d :: r => vT d ++ AO r
end
def put (d : DataW Unit) : Obj → Obj
 | .cells _ t frozen => .cells (vT d).toArray t frozen
 | o => o
noncomputable def pL (os : Os) : World :=
 { World.holding Tryz.prog os ⟨#[], #[], []⟩ with heap := (((((World.holding Tryz.prog os ⟨#[], #[], []⟩).heap.modify 1 (put Rows.laid_unicode_utf8_first)).modify 2 (put Rows.laid_unicode_utf8_acceptRanges)).modify 3 (put Rows.laid_internal_strconv_uint64pow10)).modify 4 (put Rows.laid_math_bits_deBruijn32tab)).modify 5 (put Rows.laid_math_bits_deBruijn64tab) }
def Ai : Value := .string ⟨#[]⟩
end Go.Proofs.YtpdlhpamcaocgaaGreatDoor
end
section
namespace Go.Proofs.YtpdlhpamcaocgaaGreatDoor
open Go.Abs Go.ChangeShapes Go.WideShapes Go.ChangeAt Go.RowKit Go.Proofs
def eY : Array Value := #[.agg #[Ai, .int .i64 0, .int .i64 0, .int .i64 0, Ai, Ai, .slice none 0 0, .slice none 0 0, .slice none 0 0], .agg #[Ai, .int .i64 0, .int .i64 0, .int .i64 0, Ai, Ai, .slice none 0 0, .slice none 0 0, .slice none 0 0]]
theorem nq (os : Os) : laidMet Tryz.prog Rows.recordSameRow.laid ((pL os).forCall (fun _ _ => 0) ⟨#[], eY, []⟩).memory :=
 laidMet_of_run' 8 (by kernel_rfl) (by kernel_rfl)
theorem oY : kG Tryz.prog 20 Tryz.f10.params.toList = some [(true, z8), (true, z8)] := by kernel_rfl
theorem sq {W : World} {es : List D} {n : Nat} (h : qP [(true, z8), (true, z8)] es n) (hr : ∀ i, i < es.length → ∃ v, RD qH (qL W) v (es.getD i .any)) : (ta bx).pre 1195 es ∧ (ta bx).val 1195 es = .bool true := by
 obtain ⟨d1, _, n1, m1, rfl, a1, h1, d2, _, n2, m2, rfl, a2, h2, rfl⟩ := h
 obtain ⟨v1, rfl⟩ := yX h1
 obtain ⟨v2, rfl⟩ := yX h2
 exact ctxp G1 fun T h => h v1 v2
theorem pW (os : Os) {H : Type} (enc : TypeId × Value → H) : ∃ places, DataW.whole enc Tryz.prog ((pL os).forCall (fun _ _ => 0) ⟨#[], eY, []⟩).memory Tryz.f10.params.toList Rows.recordSameSpec.vars false eY.toList 8 =
  some ([.agg [.lit (.string []), .agg [.lit (.int .i64 0), .lit (.int .i64 0), .lit (.int .i64 0), .lit (.string []), .lit (.string [])], .nil, .nil, .nil], .agg [.lit (.string []), .agg [.lit (.int .i64 0), .lit (.int .i64 0), .lit (.int .i64 0), .lit (.string []), .lit (.string [])], .nil, .nil, .nil]], [], places) :=
 ⟨[], by kernel_rfl⟩
set_option maxRecDepth 100000 in
theorem oP (os : Os) (started : os.Started) (H : Type) (enc : TypeId × Value → H) (F : Stop.Interp) :
  ReturnsInHanded {} Tryz.checked os 10 .any ((OpenSpec.ofChange Rows.recordSameSpec).preRow enc Tryz.prog Tryz.f10 Rows.recordSameRow.domain false Rows.recordSameRow.laid) (((OpenSpec.ofChange Rows.recordSameSpec).at F).post enc Tryz.prog Tryz.f10 false true false false) := by
 obtain ⟨places, hx⟩ := pW os enc
 refine returnsInHanded_of_row (C := Tryz.checked) (s := OpenSpec.ofChange Rows.recordSameSpec) own started (by kernel_rfl) Tryz.func10
  (witness_row_at (enc := enc) (C := Tryz.checked) false (pL os) eY rfl (by kernel_rfl) (by kernel_rfl) (by kernel_rfl)
    (OpenSpec.preRow_of_cond 8 hx (by kernel_rfl) (fun k hk => by cases hk) (by kernel_rfl) (nq os))) ?_
 intro W base args ds gs before qD hW _ _ _ hL hsh _
 refine xO (n := 1195) (k := 20) (s := (OpenSpec.ofChange Rows.recordSameSpec).at F) (tb := 4) okY Tryz.func10 (by kernel_rfl) (by kernel_rfl) (by kernel_rfl) Bb (by kernel_rfl) oY (by kernel_rfl) (by kernel_rfl) rfl (fun xs hx => ?_) (HI hL hsh)
  (fun es he hr => sq he hr) qD hW
 match xs, hx with
 | [a, b], _ => rfl
theorem qJ : Rows.RecordSameSaid :=
 OpenClaim.holds_of_cond 10 Tryz.f10 rfl rfl rfl rfl rfl rfl rfl ⟨rfl, rfl, rfl, rfl, rfl⟩ rfl rfl rfl rfl rfl (by kernel_rfl) Tryz.func10 (by kernel_rfl)
  (of_decide_eq_true (by kernel_rfl)) (by unfold Func.isWrapper; first | (rw [if_pos (by decide +kernel)]; kernel_rfl) | (rw [if_neg (by decide +kernel)]; exact ⟨rfl, rfl⟩))
  (fun os started H enc _ F => by rw [OpenClaim.pre_eq_preRow]; exact oP os started H enc F)
theorem pT (f : FuncId) (fn : Func) (hf : Tryz.pinned.checked.prog.funcNamed "linchpin/linchpinlaw12.RecordSame" = some f) (hfn : Tryz.pinned.checked.prog.funcs[f]? = some fn) :
  false = Tryz.pinned.checked.prog.looks [] ∧ ∀ (j : Nat) t, fn.params[j]? = some t → Tryz.pinned.checked.prog.wantsStandIn t = false := by
 obtain rfl : f = 10 := Option.some.inj ((show Tryz.prog.funcNamed "linchpin/linchpinlaw12.RecordSame" = some 10 by kernel_rfl).symm.trans hf) |>.symm
 obtain rfl : fn = Tryz.f10 := (Option.some.inj (Tryz.func10.symm.trans hfn)).symm
 refine ⟨by kernel_rfl, fun j t ht => ?_⟩
 have hall : (Tryz.f10.params.toList.all fun t => !Tryz.prog.wantsStandIn t) = true := by kernel_rfl
 have := List.all_eq_true.1 hall t (by simpa using Array.mem_of_getElem? ht)
 show Tryz.prog.wantsStandIn t = false
 simpa using this
theorem card_recordSame : Rows.RecordSameCardSaid :=
 Claim7.holds_tied_plain_at .later [] _ _ _ _ qJ (fun _ h => by cases h) (by kernel_rfl) (fun _ h => by cases h) recordSame_row_tie rfl ⟨rfl, rfl⟩ (by kernel_rfl) rfl pT (by kernel_rfl)
end Go.Proofs.YtpdlhpamcaocgaaGreatDoor
end
#print axioms Go.Proofs.YtpdlhpamcaocgaaGreatDoor.card_recordSame
