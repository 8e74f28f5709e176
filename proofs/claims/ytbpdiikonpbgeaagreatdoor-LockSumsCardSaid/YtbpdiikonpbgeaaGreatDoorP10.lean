/- A part of the proofs of the statements of package linchpinlaw33: T19, T20, T21, T22. -/
import Derived.Test.YtbpdiikonpbgeaaGreatDoorP09
set_option linter.all false
section
namespace Go.Abs
open Go
/-- linchpin/linchpinmade.Lock -/
def made_Lock : AFunc := { np := 1, ns := 13, res := [⟨1, some (4, true)⟩], rsh := [[.a, .a, .a, .sl 9 [.a, .a, .a, .a, .a, .a, .a, .a, .sl 1 [.a]]]], body := (.seq (.reg false [⟨.box 4 (.c (.agg [.str [], .str [], .str [], .nils])), none⟩] [(1, 0)]) (.seq (.reg false [⟨.mv (.s 0), none⟩, ⟨.build [.nils, .int .i64 0] [(0, 1, (.l 0))], none⟩, ⟨.box 2 (.l 1), none⟩, ⟨.mv (.l 2), none⟩] [(2, 3)]) (.seq (.reg false [⟨.mv (.s 2), none⟩, ⟨.callF 109 (.l 0) [(.c (.int .i64 3))] [[.a]], none⟩, ⟨.call 29 [(.l 1)] [[.a]], none⟩, ⟨.build [.str [], .str [], .str [], .nils] [(0, 3, (.l 2))], none⟩, ⟨.box 4 (.c (.agg [.str [], .str [], .str [], .nils])), none⟩, ⟨.st 4 (.l 4) (.l 3), none⟩] [(12, 4)]) (.seq (.seq (.reg false [⟨.mv (.c (.int .i64 0)), none⟩] [(3, 0)]) (.block 0 (.loop (.seq (.seq (.reg false [⟨.mv (.s 3), none⟩, ⟨.bin .lss (.l 0) (.c (.int .i64 4)), none⟩] [(4, 1)]) (.cond (.s 4) .skip (.exit 0))) (.seq (.block 1 (.seq (.seq (.reg false [⟨.mv (.s 2), none⟩, ⟨.callF 109 (.l 0) [(.c (.int .i64 3))] [[.a]], none⟩, ⟨.bin .eql (.l 1) (.c (.int .i64 0)), none⟩] [(5, 2)]) (.cond (.s 5) (.exit 1) .skip)) (.seq (.reg true [⟨.call 111 [] [], none⟩, ⟨.mv (.s 3), none⟩, ⟨.ia 1 (.l 0) (.l 1), none⟩, ⟨.ldI 1 false (.l 2), none⟩, ⟨.call 112 [] [], none⟩, ⟨.mv (.s 2), none⟩, ⟨.callF 109 (.l 5) [(.c (.int .i64 4))] [[.a]], none⟩, ⟨.ia 5 (.l 4) (.l 6), none⟩, ⟨.ldI 5 true (.l 7), none⟩, ⟨.bslI 1 (.str []) 3 [(0, (.c (.str [109, 97, 105, 110]))), (1, (.c (.str [115, 105, 100, 101]))), (2, (.c (.str [])))], none⟩, ⟨.mv (.s 2), none⟩, ⟨.callF 109 (.l 10) [(.c (.int .i64 3))] [[.a]], none⟩, ⟨.ia 1 (.l 9) (.l 11), none⟩, ⟨.ldI 1 false (.l 12), none⟩, ⟨.mv (.s 2), none⟩, ⟨.callF 109 (.l 14) [(.c (.int .i64 1073741824))] [[.a]], none⟩, ⟨.cvi .u64 (.l 15), none⟩, ⟨.build [.str [], .int .i64 0, .int .i64 0, .int .i64 0, .str [], .str [], .str [], .int .u64 0, .nils] [(0, 1, (.l 3)), (1, 5, (.l 8)), (6, 1, (.l 13)), (7, 1, (.l 16))], none⟩, ⟨.box 9 (.c (.agg [.str [], .int .i64 0, .int .i64 0, .int .i64 0, .str [], .str [], .str [], .int .u64 0, .nils])), none⟩, ⟨.st 9 (.l 18) (.l 17), none⟩] [(6, 18)]) (.seq (.seq (.reg false [⟨.fa 6 (.s 6), none⟩, ⟨.ld 1 false (.l 0), none⟩, ⟨.bin .eql (.l 1) (.c (.str [])), none⟩, ⟨.mv (.l 2), none⟩, ⟨.mv (.s 2), some (3, true)⟩, ⟨.callF 109 (.l 4) [(.c (.int .i64 9))] [[.a]], some (3, true)⟩, ⟨.bin .gtr (.l 5) (.c (.int .i64 0)), some (3, true)⟩, ⟨.pick (.l 3) (.l 6) (.c (.bool false)), none⟩] [(7, 7)]) (.cond (.s 7) (.reg false [⟨.fa 7 (.s 6), none⟩, ⟨.st 1 (.l 0) (.c (.int .u64 0)), none⟩] []) .skip)) (.seq (.seq (.reg false [⟨.mv (.s 2), none⟩, ⟨.callF 109 (.l 0) [(.c (.int .i64 4))] [[.a]], none⟩] [(8, 1)]) (.block 2 (.seq (.reg false [⟨.bin .eql (.s 8) (.c (.int .i64 0)), none⟩, ⟨.mv (.l 0), none⟩] [(9, 1)]) (.cond (.s 9) (.reg false [⟨.bsl 1 (.str []) 1 [(0, (.c (.str [100, 101, 102, 97, 117, 108, 116])))], none⟩, ⟨.fa 8 (.s 6), none⟩, ⟨.st 1 (.l 1) (.l 0), none⟩] []) (.seq (.reg false [⟨.bin .eql (.s 8) (.c (.int .i64 1)), none⟩, ⟨.mv (.l 0), none⟩] [(10, 1)]) (.cond (.s 10) (.reg false [⟨.bsl 1 (.str []) 2 [(0, (.c (.str [100, 101, 102, 97, 117, 108, 116]))), (1, (.c (.str [102])))], none⟩, ⟨.fa 8 (.s 6), none⟩, ⟨.st 1 (.l 1) (.l 0), none⟩] []) (.seq (.reg false [⟨.bin .eql (.s 8) (.c (.int .i64 2)), none⟩, ⟨.mv (.l 0), none⟩] [(11, 1)]) (.cond (.s 11) (.reg false [⟨.bsl 1 (.str []) 2 [(0, (.c (.str [102]))), (1, (.c (.str [100, 101, 102, 97, 117, 108, 116])))], none⟩, ⟨.mv (.s 2), none⟩, ⟨.callF 109 (.l 1) [(.c (.int .i64 2))] [[.a]], none⟩, ⟨.slA 1 (.l 0) (some (.l 2)) none, none⟩, ⟨.fa 8 (.s 6), none⟩, ⟨.st 1 (.l 4) (.l 3), none⟩] []) .skip)))))))) (.reg false [⟨.fa 3 (.s 12), none⟩, ⟨.ld 1 false (.l 0), none⟩, ⟨.ld 9 true (.s 6), none⟩, ⟨.bsl 9 (.agg [.str [], .int .i64 0, .int .i64 0, .int .i64 0, .str [], .str [], .str [], .int .u64 0, .nils]) 1 [(0, (.l 2))], none⟩, ⟨.app 9 (.l 1) (.l 3), none⟩, ⟨.fa 3 (.s 12), none⟩, ⟨.st 1 (.l 5) (.l 4), none⟩] [])))))) (.reg false [⟨.mv (.s 3), none⟩, ⟨.bin .add (.l 0) (.c (.int .i64 1)), none⟩, ⟨.mv (.l 1), none⟩] [(3, 2)])))))) (.seq (.reg false [⟨.ld 4 true (.s 12), none⟩, ⟨.st 4 (.s 1) (.l 0), none⟩] []) .ret))))) }
theorem w160 {Γ : Ctx} (hm : (Γ.at 0).Mono) (h25 : C25 (Γ.at 0)) (h29 : C29 (Γ.at 0)) (h109 : C109 (Γ.at 0)) (h111 : C111 (Γ.at 0)) (h112 : C112 (Γ.at 0)) (ks : List Int)  : wpA (Γ.at 0) made_Lock.body (Res made_Lock (Lck.D (lockM ks)) : Ex → List Ent → St → Prop) (env0 made_Lock [.sl 1 (ks.map (D.int .i64))]) ⟨0, []⟩ := by
  show wpA _ _ _ [⟨true, .sl 1 (ks.map (D.int .i64))⟩, .un, .un, .un, .un, .un, .un, .un, .un, .un, .un, .un, .un] ⟨0, []⟩
  refine wp_regseq ?_; refine r_box ?_; refine reg_end (env' := [_, ⟨_, _⟩, _, _, _, _, _, _, _, _, _, _, _]) ?_; refine wp_regseq ?_; refine r_mv ?_; refine r_buildD (Gs.D ⟨ks, 0⟩) ?_; refine r_box ?_; refine r_mv ?_; refine reg_end (env' := [_, _, ⟨_, _⟩, _, _, _, _, _, _, _, _, _, _]) ?_; refine wp_regseq ?_; refine r_mv ?_; refine r_callF (hc := h109 ⟨ks, 0⟩ 3 (by omega) (by simp)) ?_; refine r_call (hc := h29 _) ?_; refine r_build _ ?_; refine r_box ?_; refine r_stF _ ?_; refine reg_end (env' := [_, _, _, _, _, _, _, _, _, _, _, _, ⟨_, _⟩]) ?_
  generalize hE : envM ((⟨ks, 0⟩ : Gs).val 3) = E
  have hL0 : lockM ks = ⟨E, loopM 4 0 (⟨ks, 0⟩ : Gs).nxt []⟩ := by rw [← hE]; rfl
  refine wp_assoc ?_; refine wp_regseq ?_; refine r_mv ?_; refine reg_end (env' := [_, _, _, ⟨_, (.int _ _)⟩, _, _, _, _, _, _, _, _, _]) ?_
  refine wp_for hm (ι := (Nat × Gs × List Lkd)) (fun p => [.un, ⟨true, .ptr 0 4 0 0⟩, ⟨true, .ptr 3 2 0 0⟩, ⟨true, .int .i64 (p.1 : Nat)⟩, .un, .un, .un, .un, .un, .un, .un, .un, ⟨true, .ptr 9 4 0 0⟩]) (fun p => [(0, .buf 4 [.agg [.str [], .str [], .str [], .nils]]), (3, .buf 2 [Gs.D p.2.1]), (9, .buf 4 [.agg [.str E.e0, .str E.e1, .str E.e2, .own 1 9 0 p.2.2.length]]), (1, .buf 9 (p.2.2.map Lkd.N))]) 12 (fun p => p.1 ≤ 4 ∧ 0 ≤ p.2.1.i ∧ p.2.1.i ≤ 8 * p.1 + 1 ∧ p.2.2.length ≤ p.1 ∧ lockM ks = ⟨E, loopM (4 - p.1) p.1 p.2.1 p.2.2⟩) (fun p => 4 - p.1) (0, (⟨ks, 0⟩ : Gs).nxt, []) ⟨by simp, by simp [Gs.nxt], by simp [Gs.nxt], by simp, hL0⟩ (Ghost.to [(0, 0), (3, 3), (9, 9)] q7 q7 q6 (by (first | refine RnM.idn q7 q7 q5 ?_ | refine RnM.ide q7 q7 q7 ?_ | refine RnM.idi q7 q7 q7 q7 ?_); (first | refine RnM.idn q7 q7 q5 ?_ | refine RnM.ide q7 q7 q7 ?_ | refine RnM.idi q7 q7 q7 q7 ?_); refine RnM.ni 9 q7 q7 (by exact ⟨_, _, rfl, ⟨_, rfl, ⟨_, _, rfl, ⟨rfl, rfl⟩, ⟨_, _, rfl, ⟨rfl, rfl⟩, ⟨_, _, rfl, ⟨rfl, rfl⟩, ⟨_, _, rfl, Or.inr ⟨_, _, _, rfl⟩, rfl⟩⟩⟩⟩⟩, rfl⟩) ?_; refine RnM.mt q7 q7 q7 q7 ?_; exact RnM.nil)) ?_
  rintro ⟨i, g, ls⟩ ⟨hi, hg0, hg1, hl, hr⟩
  dsimp only at hi hg0 hg1 hl hr ⊢
  have r4 := g.nxt.val_range 4 (by omega)
  have r3 := g.nxt.nxt.val_range 3 (by omega)
  have rb := g.nxt.nxt.nxt.val_range 1073741824 (by omega)
  refine wp_assoc ?_; refine wp_regseq ?_; refine r_mv ?_; refine r_lssI ?_; refine reg_end (env' := [_, _, _, _, ⟨_, (.bool _)⟩, _, _, _, _, _, _, _, _]) ?_
  refine wp_condseq (fun hc0 => ?_) (fun hc0 => ?_)
  · try simp only [b0, b1, b2, b3, b4, b5, b6, b7, b8, b9, b10, b11] at hc0
    refine wp_skipseq ?_
    refine wp_blockseq ?_ hm
    refine wp_assoc ?_; refine wp_regseq ?_; refine r_mv ?_; refine r_callF (hc := h109 g 3 (by omega) (by first | (simp only [Gs.nxt_i]; omega) | omega)) ?_; refine r_eqlI ?_; refine reg_end (env' := [_, _, _, _, _, ⟨_, (.bool _)⟩, _, _, _, _, _, _, _]) ?_
    refine wp_condseq (fun hc1 => ?_) (fun hc1 => ?_)
    · try simp only [b0, b1, b2, b3, b4, b5, b6, b7, b8, b9, b10, b11] at hc1
      refine wp_exitseq ?_; refine BQ.out ?_; refine wp_reg ?_; refine r_mv ?_; refine r_add64 ?_; refine r_mv ?_; refine reg_fin (env' := [_, _, _, ⟨_, (.int _ _)⟩, _, _, _, _, _, _, _, _, _]) ?_; refine LQ.normal ?_
      have hst : stepM i g ls = (g.nxt, ls) := by simp [stepM, hc1]
      exact ⟨(i + 1, g.nxt, ls), ⟨by dsimp only; omega, by first | (simp only [Gs.nxt_i]; omega) | omega, by first | (simp only [Gs.nxt_i]; omega) | omega, by first | (simp only [List.length_append, List.length_cons, List.length_nil]; omega) | (dsimp only; omega), by rw [hr, show 4 - i = (4 - (i + 1)) + 1 by omega, step_run hst]⟩, by dsimp only; omega, (Ghost.to [(0, 0), (3, 3), (9, 9), (1, 1)] q7 q7 q6 (by (refine RnM.idn q7 q7 rfl ?_); (refine RnM.idn q7 q7 rfl ?_); refine RnM.ide q7 q7 q7 ?_; refine RnM.idn q7 q7 (by exact noLocs_map Lkd.N_noLoc _) ?_; exact RnM.nil))⟩
    · try simp only [b0, b1, b2, b3, b4, b5, b6, b7, b8, b9, b10, b11] at hc1
      refine wp_skipseq ?_; refine wp_regseq ?_; refine r_call (hc := h111 ) ?_; refine r_mv ?_
      refine r_iaM i (hb := fun _ => by simp [namesM]; omega) ?_
      refine r_ldIR (v := .str namesM[i]!) (hi := fun _ => by simp [namesM]; omega) ?_
      refine r_call (hc := h112 ) ?_; refine r_mv ?_; refine r_callF (hc := h109 g.nxt 4 (by omega) (by first | (simp only [Gs.nxt_i]; omega) | omega)) ?_
      refine r_iaM (g.nxt.val 4).toNat (hj := fun _ => by omega) (hb := fun _ => by simp [versM]; omega) ?_
      refine r_ldIR (v := Ver.D versM[(g.nxt.val 4).toNat]!) (hi := fun _ => by simp [versM]; omega) ?_
      refine r_bslI (shelM.map D.str) ?_; refine r_mv ?_; refine r_callF (hc := h109 g.nxt.nxt 3 (by omega) (by first | (simp only [Gs.nxt_i]; omega) | omega)) ?_
      refine r_iaM (g.nxt.nxt.val 3).toNat (hj := fun _ => by omega) (hb := fun _ => by simp [shelM]; omega) ?_
      refine r_ldIR (v := .str shelM[(g.nxt.nxt.val 3).toNat]!) (hi := fun _ => by simp [shelM]; omega) ?_
      refine r_mv ?_; refine r_callF (hc := h109 g.nxt.nxt.nxt 1073741824 (by omega) (by first | (simp only [Gs.nxt_i]; omega) | omega)) ?_
      refine r_cvi (g.nxt.nxt.nxt.val 1073741824) (hb := fun _ => by rw [IntKind.wrap_u64]; omega) ?_
      refine r_buildD (Lkd.F namesM[i]! versM[(g.nxt.val 4).toNat]! shelM[(g.nxt.nxt.val 3).toNat]! (g.nxt.nxt.nxt.val 1073741824) .nils) ?_; refine r_box ?_; refine r_stF (Lkd.F namesM[i]! versM[(g.nxt.val 4).toNat]! shelM[(g.nxt.nxt.val 3).toNat]! (g.nxt.nxt.nxt.val 1073741824) .nils) (he := by exact rfl) ?_; refine reg_end (env' := [_, _, _, _, _, _, ⟨_, _⟩, _, _, _, _, _, _]) ?_; refine wp_assoc ?_; refine wp_regseq ?_
      by_cases hsh : shelM[(g.nxt.nxt.val 3).toNat]! = []
      · refine r_faP ?_; refine r_ldF (v := (.str _)) ?_
        refine r_eqlS ?_; rw [decide_eq_true hsh]
        refine r_mv ?_; refine r_mv ?_; refine r_callFT (hc := h109 g.nxt.nxt.nxt.nxt 9 (by omega) (by first | (simp only [Gs.nxt_i]; omega) | omega)) ?_; refine r_gtrI ?_; refine r_and ?_; refine reg_end (env' := [_, _, _, _, _, _, _, ⟨_, (.bool _)⟩, _, _, _, _, _]) ?_
        generalize hg5 : g.nxt.nxt.nxt.nxt.nxt = g5
        have hg5i : g5.i = g.i + 5 := by rw [← hg5]; simp only [Gs.nxt_i]; omega
        refine wp_condseq (fun hc2 => ?_) (fun hc2 => ?_)
        · try simp only [b0, b1, b2, b3, b4, b5, b6, b7, b8, b9, b10, b11] at hc2
          refine wp_regseq ?_; refine r_faP ?_; refine r_stF (Lkd.F namesM[i]! versM[(g.nxt.val 4).toNat]! shelM[(g.nxt.nxt.val 3).toNat]! 0 .nils) (he := by exact rfl) ?_; refine reg_end (env' := [_, _, _, _, _, _, _, _, _, _, _, _, _]) ?_; refine wp_assoc ?_; refine wp_regseq ?_
          have hA : sumM g.nxt.nxt.nxt.nxt shelM[(g.nxt.nxt.val 3).toNat]! (g.nxt.nxt.nxt.val 1073741824) = (0, g5) := by simp [sumM, hsh, hc2, hg5]
          refine r_mv ?_; refine r_callF (hc := h109 g5 4 (by omega) (by first | (simp only [Gs.nxt_i]; omega) | omega)) ?_; refine reg_end (env' := [_, _, _, _, _, _, _, _, ⟨_, (.int _ _)⟩, _, _, _, _]) ?_
          refine wp_blockseq ?_ hm
          refine wp_regseq ?_; refine r_eqlI ?_; refine r_mv ?_; refine reg_end (env' := [_, _, _, _, _, _, _, _, _, ⟨_, (.bool _)⟩, _, _, _]) ?_
          refine wp_cond (fun hc3 => ?_) (fun hc3 => ?_)
          · try simp only [b0, b1, b2, b3, b4, b5, b6, b7, b8, b9, b10, b11] at hc3
            refine wp_reg ?_; refine r_bsl [(.str _)] ?_; refine r_faP ?_; refine r_stF (Lkd.F namesM[i]! versM[(g.nxt.val 4).toNat]! shelM[(g.nxt.nxt.val 3).toNat]! 0 (.own 51 1 0 1)) (he := by exact rfl) ?_; refine reg_fin (env' := [_, _, _, _, _, _, _, _, _, _, _, _, _]) ?_; refine BQ.normal ?_
            refine wp_fz 51 ?_ (he := by simp only [fzE, fzD, fzL, fzM, fzB, delL, Nat.reduceEqDiff, if_true, if_false, and_self, true_and, and_true, false_and, and_false, Nat.zero_add, List.length_map, Nat.le_refl, List.drop_zero, take_map_len, reduceCtorEq, List.length_cons, List.length_nil, Nat.reduceAdd, Nat.reduceLeDiff, fzD_F, fzD_Gs, fzL_N]; exact rfl) (hm := by simp only [fzE, fzD, fzL, fzM, fzB, delL, Nat.reduceEqDiff, if_true, if_false, and_self, true_and, and_true, false_and, and_false, Nat.zero_add, List.length_map, Nat.le_refl, List.drop_zero, take_map_len, reduceCtorEq, List.length_cons, List.length_nil, Nat.reduceAdd, Nat.reduceLeDiff, fzD_F, fzD_Gs, fzL_N]; exact rfl)
            refine wp_reg ?_; refine r_faP ?_
            first | refine r_ldF (v := .sl _ _) ?_ | refine r_ldF (v := .own _ _ _ _) ?_ | refine r_ldF (v := .nils) ?_
            refine r_ldB ?_; refine r_bsl [Lkd.N ⟨namesM[i]!, versM[(g.nxt.val 4).toNat]!, shelM[(g.nxt.nxt.val 3).toNat]!, 0, [dflW]⟩] ?_; refine r_app1 ?_; refine r_faP ?_; refine r_stF _ (he := by exact rfl) ?_; refine reg_fin (env' := [_, _, _, _, _, _, _, _, _, _, _, _, _]) ?_; refine BQ.normal ?_; refine wp_reg ?_; refine r_mv ?_; refine r_add64 ?_; refine r_mv ?_; refine reg_fin (env' := [_, _, _, ⟨_, (.int _ _)⟩, _, _, _, _, _, _, _, _, _]) ?_; refine LQ.normal ?_
            have hB : featM g5 = ([dflW], g5.nxt) := by simp [featM, hc3]
            have hst := step_mk (ls := ls) (i := i) hc1 hA hB
            exact ⟨(i + 1, g5.nxt, ls ++ [⟨namesM[i]!, versM[(g.nxt.val 4).toNat]!, shelM[(g.nxt.nxt.val 3).toNat]!, 0, [dflW]⟩]), ⟨by dsimp only; omega, by first | (simp only [Gs.nxt_i]; omega) | omega, by first | (simp only [Gs.nxt_i]; omega) | omega, by first | (simp only [List.length_append, List.length_cons, List.length_nil]; omega) | (dsimp only; omega), by rw [hr, show 4 - i = (4 - (i + 1)) + 1 by omega, step_run hst]⟩, by dsimp only; omega, (Ghost.to [(0, 0), (3, 3), (9, 9), (58, 1)] q7 q7 q6 (by (refine RnM.idn q7 q7 rfl ?_); (refine RnM.idn q7 q7 rfl ?_); refine RnM.ide q7 q7 q7 ?_; refine RnM.nl 58 q7 q7 rfl (by exact noLocs_map Lkd.N_noLoc _) ?_; exact RnM.nil))⟩
          · try simp only [b0, b1, b2, b3, b4, b5, b6, b7, b8, b9, b10, b11] at hc3
            refine wp_regseq ?_; refine r_eqlI ?_; refine r_mv ?_; refine reg_end (env' := [_, _, _, _, _, _, _, _, _, _, ⟨_, (.bool _)⟩, _, _]) ?_
            refine wp_cond (fun hc4 => ?_) (fun hc4 => ?_)
            · try simp only [b0, b1, b2, b3, b4, b5, b6, b7, b8, b9, b10, b11] at hc4
              refine wp_reg ?_; refine r_bsl [(.str _), (.str _)] ?_; refine r_faP ?_; refine r_stF (Lkd.F namesM[i]! versM[(g.nxt.val 4).toNat]! shelM[(g.nxt.nxt.val 3).toNat]! 0 (.own 53 1 0 2)) (he := by exact rfl) ?_; refine reg_fin (env' := [_, _, _, _, _, _, _, _, _, _, _, _, _]) ?_; refine BQ.normal ?_
              refine wp_fz 53 ?_ (he := by simp only [fzE, fzD, fzL, fzM, fzB, delL, Nat.reduceEqDiff, if_true, if_false, and_self, true_and, and_true, false_and, and_false, Nat.zero_add, List.length_map, Nat.le_refl, List.drop_zero, take_map_len, reduceCtorEq, List.length_cons, List.length_nil, Nat.reduceAdd, Nat.reduceLeDiff, fzD_F, fzD_Gs, fzL_N]; exact rfl) (hm := by simp only [fzE, fzD, fzL, fzM, fzB, delL, Nat.reduceEqDiff, if_true, if_false, and_self, true_and, and_true, false_and, and_false, Nat.zero_add, List.length_map, Nat.le_refl, List.drop_zero, take_map_len, reduceCtorEq, List.length_cons, List.length_nil, Nat.reduceAdd, Nat.reduceLeDiff, fzD_F, fzD_Gs, fzL_N]; exact rfl)
              refine wp_reg ?_; refine r_faP ?_
              first | refine r_ldF (v := .sl _ _) ?_ | refine r_ldF (v := .own _ _ _ _) ?_ | refine r_ldF (v := .nils) ?_
              refine r_ldB ?_; refine r_bsl [Lkd.N ⟨namesM[i]!, versM[(g.nxt.val 4).toNat]!, shelM[(g.nxt.nxt.val 3).toNat]!, 0, [dflW, fW]⟩] ?_; refine r_app1 ?_; refine r_faP ?_; refine r_stF _ (he := by exact rfl) ?_; refine reg_fin (env' := [_, _, _, _, _, _, _, _, _, _, _, _, _]) ?_; refine BQ.normal ?_; refine wp_reg ?_; refine r_mv ?_; refine r_add64 ?_; refine r_mv ?_; refine reg_fin (env' := [_, _, _, ⟨_, (.int _ _)⟩, _, _, _, _, _, _, _, _, _]) ?_; refine LQ.normal ?_
              have hB : featM g5 = ([dflW, fW], g5.nxt) := by simp [featM, hc4]
              have hst := step_mk (ls := ls) (i := i) hc1 hA hB
              exact ⟨(i + 1, g5.nxt, ls ++ [⟨namesM[i]!, versM[(g.nxt.val 4).toNat]!, shelM[(g.nxt.nxt.val 3).toNat]!, 0, [dflW, fW]⟩]), ⟨by dsimp only; omega, by first | (simp only [Gs.nxt_i]; omega) | omega, by first | (simp only [Gs.nxt_i]; omega) | omega, by first | (simp only [List.length_append, List.length_cons, List.length_nil]; omega) | (dsimp only; omega), by rw [hr, show 4 - i = (4 - (i + 1)) + 1 by omega, step_run hst]⟩, by dsimp only; omega, (Ghost.to [(0, 0), (3, 3), (9, 9), (60, 1)] q7 q7 q6 (by (refine RnM.idn q7 q7 rfl ?_); (refine RnM.idn q7 q7 rfl ?_); refine RnM.ide q7 q7 q7 ?_; refine RnM.nl 60 q7 q7 rfl (by exact noLocs_map Lkd.N_noLoc _) ?_; exact RnM.nil))⟩
            · try simp only [b0, b1, b2, b3, b4, b5, b6, b7, b8, b9, b10, b11] at hc4
              refine wp_regseq ?_; refine r_eqlI ?_; refine r_mv ?_; refine reg_end (env' := [_, _, _, _, _, _, _, _, _, _, _, ⟨_, (.bool _)⟩, _]) ?_
              refine wp_cond (fun hc5 => ?_) (fun hc5 => ?_)
              · try simp only [b0, b1, b2, b3, b4, b5, b6, b7, b8, b9, b10, b11] at hc5
                refine wp_reg ?_
                have r2 := g5.nxt.val_range 2 (by omega)
                obtain hsp | hsp : g5.nxt.val 2 = 0 ∨ g5.nxt.val 2 = 1 := by omega
                · refine r_bsl [(.str _), (.str _)] ?_; refine r_mv ?_; refine r_callF (hc := h109 g5.nxt 2 (by omega) (by first | (simp only [Gs.nxt_i]; omega) | omega)) ?_
                  refine r_slO_lo 0 ?_; simp only [Nat.reduceAdd, Nat.reduceSub]
                  refine r_faP ?_; refine r_stF (Lkd.F namesM[i]! versM[(g.nxt.val 4).toNat]! shelM[(g.nxt.nxt.val 3).toNat]! 0 (.own 55 1 0 2)) (he := by exact rfl) ?_; refine reg_fin (env' := [_, _, _, _, _, _, _, _, _, _, _, _, _]) ?_; refine BQ.normal ?_
                  refine wp_fz 55 ?_ (he := by simp only [fzE, fzD, fzL, fzM, fzB, delL, Nat.reduceEqDiff, if_true, if_false, and_self, true_and, and_true, false_and, and_false, Nat.zero_add, List.length_map, Nat.le_refl, List.drop_zero, take_map_len, reduceCtorEq, List.length_cons, List.length_nil, Nat.reduceAdd, Nat.reduceLeDiff, fzD_F, fzD_Gs, fzL_N]; exact rfl) (hm := by simp only [fzE, fzD, fzL, fzM, fzB, delL, Nat.reduceEqDiff, if_true, if_false, and_self, true_and, and_true, false_and, and_false, Nat.zero_add, List.length_map, Nat.le_refl, List.drop_zero, take_map_len, reduceCtorEq, List.length_cons, List.length_nil, Nat.reduceAdd, Nat.reduceLeDiff, fzD_F, fzD_Gs, fzL_N]; exact rfl)
                  refine wp_reg ?_; refine r_faP ?_
                  first | refine r_ldF (v := .sl _ _) ?_ | refine r_ldF (v := .own _ _ _ _) ?_ | refine r_ldF (v := .nils) ?_
                  refine r_ldB ?_; refine r_bsl [Lkd.N ⟨namesM[i]!, versM[(g.nxt.val 4).toNat]!, shelM[(g.nxt.nxt.val 3).toNat]!, 0, [fW, dflW]⟩] ?_; refine r_app1 ?_; refine r_faP ?_; refine r_stF _ (he := by exact rfl) ?_; refine reg_fin (env' := [_, _, _, _, _, _, _, _, _, _, _, _, _]) ?_; refine BQ.normal ?_; refine wp_reg ?_; refine r_mv ?_; refine r_add64 ?_; refine r_mv ?_; refine reg_fin (env' := [_, _, _, ⟨_, (.int _ _)⟩, _, _, _, _, _, _, _, _, _]) ?_; refine LQ.normal ?_
                  have hB : featM g5 = ([fW, dflW], g5.nxt.nxt) := by simp [featM, hc5, hsp]
                  have hst := step_mk (ls := ls) (i := i) hc1 hA hB
                  exact ⟨(i + 1, g5.nxt.nxt, ls ++ [⟨namesM[i]!, versM[(g.nxt.val 4).toNat]!, shelM[(g.nxt.nxt.val 3).toNat]!, 0, [fW, dflW]⟩]), ⟨by dsimp only; omega, by first | (simp only [Gs.nxt_i]; omega) | omega, by first | (simp only [Gs.nxt_i]; omega) | omega, by first | (simp only [List.length_append, List.length_cons, List.length_nil]; omega) | (dsimp only; omega), by rw [hr, show 4 - i = (4 - (i + 1)) + 1 by omega, step_run hst]⟩, by dsimp only; omega, (Ghost.to [(0, 0), (3, 3), (9, 9), (65, 1)] q7 q7 q6 (by (refine RnM.idn q7 q7 rfl ?_); (refine RnM.idn q7 q7 rfl ?_); refine RnM.ide q7 q7 q7 ?_; refine RnM.nl 65 q7 q7 rfl (by exact noLocs_map Lkd.N_noLoc _) ?_; exact RnM.nil))⟩
                · refine r_bsl [(.str _), (.str _)] ?_; refine r_mv ?_; refine r_callF (hc := h109 g5.nxt 2 (by omega) (by first | (simp only [Gs.nxt_i]; omega) | omega)) ?_
                  refine r_slO_lo 1 ?_; simp only [Nat.reduceAdd, Nat.reduceSub]
                  refine r_faP ?_; refine r_stF (Lkd.F namesM[i]! versM[(g.nxt.val 4).toNat]! shelM[(g.nxt.nxt.val 3).toNat]! 0 (.own 55 1 1 1)) (he := by exact rfl) ?_; refine reg_fin (env' := [_, _, _, _, _, _, _, _, _, _, _, _, _]) ?_; refine BQ.normal ?_
                  refine wp_fz 55 ?_ (he := by simp only [fzE, fzD, fzL, fzM, fzB, delL, Nat.reduceEqDiff, if_true, if_false, and_self, true_and, and_true, false_and, and_false, Nat.zero_add, List.length_map, Nat.le_refl, List.drop_zero, take_map_len, reduceCtorEq, List.length_cons, List.length_nil, Nat.reduceAdd, Nat.reduceLeDiff, fzD_F, fzD_Gs, fzL_N]; exact rfl) (hm := by simp only [fzE, fzD, fzL, fzM, fzB, delL, Nat.reduceEqDiff, if_true, if_false, and_self, true_and, and_true, false_and, and_false, Nat.zero_add, List.length_map, Nat.le_refl, List.drop_zero, take_map_len, reduceCtorEq, List.length_cons, List.length_nil, Nat.reduceAdd, Nat.reduceLeDiff, fzD_F, fzD_Gs, fzL_N]; exact rfl)
                  refine wp_reg ?_; refine r_faP ?_
                  first | refine r_ldF (v := .sl _ _) ?_ | refine r_ldF (v := .own _ _ _ _) ?_ | refine r_ldF (v := .nils) ?_
                  refine r_ldB ?_; refine r_bsl [Lkd.N ⟨namesM[i]!, versM[(g.nxt.val 4).toNat]!, shelM[(g.nxt.nxt.val 3).toNat]!, 0, [dflW]⟩] ?_; refine r_app1 ?_; refine r_faP ?_; refine r_stF _ (he := by exact rfl) ?_; refine reg_fin (env' := [_, _, _, _, _, _, _, _, _, _, _, _, _]) ?_; refine BQ.normal ?_; refine wp_reg ?_; refine r_mv ?_; refine r_add64 ?_; refine r_mv ?_; refine reg_fin (env' := [_, _, _, ⟨_, (.int _ _)⟩, _, _, _, _, _, _, _, _, _]) ?_; refine LQ.normal ?_
                  have hB : featM g5 = ([dflW], g5.nxt.nxt) := by simp [featM, hc5, hsp]
                  have hst := step_mk (ls := ls) (i := i) hc1 hA hB
                  exact ⟨(i + 1, g5.nxt.nxt, ls ++ [⟨namesM[i]!, versM[(g.nxt.val 4).toNat]!, shelM[(g.nxt.nxt.val 3).toNat]!, 0, [dflW]⟩]), ⟨by dsimp only; omega, by first | (simp only [Gs.nxt_i]; omega) | omega, by first | (simp only [Gs.nxt_i]; omega) | omega, by first | (simp only [List.length_append, List.length_cons, List.length_nil]; omega) | (dsimp only; omega), by rw [hr, show 4 - i = (4 - (i + 1)) + 1 by omega, step_run hst]⟩, by dsimp only; omega, (Ghost.to [(0, 0), (3, 3), (9, 9), (65, 1)] q7 q7 q6 (by (refine RnM.idn q7 q7 rfl ?_); (refine RnM.idn q7 q7 rfl ?_); refine RnM.ide q7 q7 q7 ?_; refine RnM.nl 65 q7 q7 rfl (by exact noLocs_map Lkd.N_noLoc _) ?_; exact RnM.nil))⟩
              · try simp only [b0, b1, b2, b3, b4, b5, b6, b7, b8, b9, b10, b11] at hc5
                refine wp_skip ?_; refine BQ.normal ?_; refine wp_reg ?_; refine r_faP ?_
                first | refine r_ldF (v := .sl _ _) ?_ | refine r_ldF (v := .own _ _ _ _) ?_ | refine r_ldF (v := .nils) ?_
                refine r_ldB ?_; refine r_bsl [Lkd.N ⟨namesM[i]!, versM[(g.nxt.val 4).toNat]!, shelM[(g.nxt.nxt.val 3).toNat]!, 0, []⟩] ?_; refine r_app1 ?_; refine r_faP ?_; refine r_stF _ (he := by exact rfl) ?_; refine reg_fin (env' := [_, _, _, _, _, _, _, _, _, _, _, _, _]) ?_; refine BQ.normal ?_; refine wp_reg ?_; refine r_mv ?_; refine r_add64 ?_; refine r_mv ?_; refine reg_fin (env' := [_, _, _, ⟨_, (.int _ _)⟩, _, _, _, _, _, _, _, _, _]) ?_; refine LQ.normal ?_
                have hB : featM g5 = ([], g5.nxt) := by simp [featM, hc3, hc4, hc5]
                have hst := step_mk (ls := ls) (i := i) hc1 hA hB
                exact ⟨(i + 1, g5.nxt, ls ++ [⟨namesM[i]!, versM[(g.nxt.val 4).toNat]!, shelM[(g.nxt.nxt.val 3).toNat]!, 0, []⟩]), ⟨by dsimp only; omega, by first | (simp only [Gs.nxt_i]; omega) | omega, by first | (simp only [Gs.nxt_i]; omega) | omega, by first | (simp only [List.length_append, List.length_cons, List.length_nil]; omega) | (dsimp only; omega), by rw [hr, show 4 - i = (4 - (i + 1)) + 1 by omega, step_run hst]⟩, by dsimp only; omega, (Ghost.to [(0, 0), (3, 3), (9, 9), (59, 1)] q7 q7 q6 (by (refine RnM.idn q7 q7 rfl ?_); (refine RnM.idn q7 q7 rfl ?_); refine RnM.ide q7 q7 q7 ?_; refine RnM.nl 59 q7 q7 rfl (by exact noLocs_map Lkd.N_noLoc _) ?_; exact RnM.nil))⟩
        · try simp only [b0, b1, b2, b3, b4, b5, b6, b7, b8, b9, b10, b11] at hc2
          refine wp_skipseq ?_; refine wp_assoc ?_; refine wp_regseq ?_
          have hA : sumM g.nxt.nxt.nxt.nxt shelM[(g.nxt.nxt.val 3).toNat]! (g.nxt.nxt.nxt.val 1073741824) = ((g.nxt.nxt.nxt.val 1073741824), g5) := by simp [sumM, hsh, hc2, hg5]
          refine r_mv ?_; refine r_callF (hc := h109 g5 4 (by omega) (by first | (simp only [Gs.nxt_i]; omega) | omega)) ?_; refine reg_end (env' := [_, _, _, _, _, _, _, _, ⟨_, (.int _ _)⟩, _, _, _, _]) ?_
          refine wp_blockseq ?_ hm
          refine wp_regseq ?_; refine r_eqlI ?_; refine r_mv ?_; refine reg_end (env' := [_, _, _, _, _, _, _, _, _, ⟨_, (.bool _)⟩, _, _, _]) ?_
          refine wp_cond (fun hc3 => ?_) (fun hc3 => ?_)
          · try simp only [b0, b1, b2, b3, b4, b5, b6, b7, b8, b9, b10, b11] at hc3
            refine wp_reg ?_; refine r_bsl [(.str _)] ?_; refine r_faP ?_; refine r_stF (Lkd.F namesM[i]! versM[(g.nxt.val 4).toNat]! shelM[(g.nxt.nxt.val 3).toNat]! (g.nxt.nxt.nxt.val 1073741824) (.own 49 1 0 1)) (he := by exact rfl) ?_; refine reg_fin (env' := [_, _, _, _, _, _, _, _, _, _, _, _, _]) ?_; refine BQ.normal ?_
            refine wp_fz 49 ?_ (he := by simp only [fzE, fzD, fzL, fzM, fzB, delL, Nat.reduceEqDiff, if_true, if_false, and_self, true_and, and_true, false_and, and_false, Nat.zero_add, List.length_map, Nat.le_refl, List.drop_zero, take_map_len, reduceCtorEq, List.length_cons, List.length_nil, Nat.reduceAdd, Nat.reduceLeDiff, fzD_F, fzD_Gs, fzL_N]; exact rfl) (hm := by simp only [fzE, fzD, fzL, fzM, fzB, delL, Nat.reduceEqDiff, if_true, if_false, and_self, true_and, and_true, false_and, and_false, Nat.zero_add, List.length_map, Nat.le_refl, List.drop_zero, take_map_len, reduceCtorEq, List.length_cons, List.length_nil, Nat.reduceAdd, Nat.reduceLeDiff, fzD_F, fzD_Gs, fzL_N]; exact rfl)
            refine wp_reg ?_; refine r_faP ?_
            first | refine r_ldF (v := .sl _ _) ?_ | refine r_ldF (v := .own _ _ _ _) ?_ | refine r_ldF (v := .nils) ?_
            refine r_ldB ?_; refine r_bsl [Lkd.N ⟨namesM[i]!, versM[(g.nxt.val 4).toNat]!, shelM[(g.nxt.nxt.val 3).toNat]!, (g.nxt.nxt.nxt.val 1073741824), [dflW]⟩] ?_; refine r_app1 ?_; refine r_faP ?_; refine r_stF _ (he := by exact rfl) ?_; refine reg_fin (env' := [_, _, _, _, _, _, _, _, _, _, _, _, _]) ?_; refine BQ.normal ?_; refine wp_reg ?_; refine r_mv ?_; refine r_add64 ?_; refine r_mv ?_; refine reg_fin (env' := [_, _, _, ⟨_, (.int _ _)⟩, _, _, _, _, _, _, _, _, _]) ?_; refine LQ.normal ?_
            have hB : featM g5 = ([dflW], g5.nxt) := by simp [featM, hc3]
            have hst := step_mk (ls := ls) (i := i) hc1 hA hB
            exact ⟨(i + 1, g5.nxt, ls ++ [⟨namesM[i]!, versM[(g.nxt.val 4).toNat]!, shelM[(g.nxt.nxt.val 3).toNat]!, (g.nxt.nxt.nxt.val 1073741824), [dflW]⟩]), ⟨by dsimp only; omega, by first | (simp only [Gs.nxt_i]; omega) | omega, by first | (simp only [Gs.nxt_i]; omega) | omega, by first | (simp only [List.length_append, List.length_cons, List.length_nil]; omega) | (dsimp only; omega), by rw [hr, show 4 - i = (4 - (i + 1)) + 1 by omega, step_run hst]⟩, by dsimp only; omega, (Ghost.to [(0, 0), (3, 3), (9, 9), (56, 1)] q7 q7 q6 (by (refine RnM.idn q7 q7 rfl ?_); (refine RnM.idn q7 q7 rfl ?_); refine RnM.ide q7 q7 q7 ?_; refine RnM.nl 56 q7 q7 rfl (by exact noLocs_map Lkd.N_noLoc _) ?_; exact RnM.nil))⟩
          · try simp only [b0, b1, b2, b3, b4, b5, b6, b7, b8, b9, b10, b11] at hc3
            refine wp_regseq ?_; refine r_eqlI ?_; refine r_mv ?_; refine reg_end (env' := [_, _, _, _, _, _, _, _, _, _, ⟨_, (.bool _)⟩, _, _]) ?_
            refine wp_cond (fun hc4 => ?_) (fun hc4 => ?_)
            · try simp only [b0, b1, b2, b3, b4, b5, b6, b7, b8, b9, b10, b11] at hc4
              refine wp_reg ?_; refine r_bsl [(.str _), (.str _)] ?_; refine r_faP ?_; refine r_stF (Lkd.F namesM[i]! versM[(g.nxt.val 4).toNat]! shelM[(g.nxt.nxt.val 3).toNat]! (g.nxt.nxt.nxt.val 1073741824) (.own 51 1 0 2)) (he := by exact rfl) ?_; refine reg_fin (env' := [_, _, _, _, _, _, _, _, _, _, _, _, _]) ?_; refine BQ.normal ?_
              refine wp_fz 51 ?_ (he := by simp only [fzE, fzD, fzL, fzM, fzB, delL, Nat.reduceEqDiff, if_true, if_false, and_self, true_and, and_true, false_and, and_false, Nat.zero_add, List.length_map, Nat.le_refl, List.drop_zero, take_map_len, reduceCtorEq, List.length_cons, List.length_nil, Nat.reduceAdd, Nat.reduceLeDiff, fzD_F, fzD_Gs, fzL_N]; exact rfl) (hm := by simp only [fzE, fzD, fzL, fzM, fzB, delL, Nat.reduceEqDiff, if_true, if_false, and_self, true_and, and_true, false_and, and_false, Nat.zero_add, List.length_map, Nat.le_refl, List.drop_zero, take_map_len, reduceCtorEq, List.length_cons, List.length_nil, Nat.reduceAdd, Nat.reduceLeDiff, fzD_F, fzD_Gs, fzL_N]; exact rfl)
              refine wp_reg ?_; refine r_faP ?_
              first | refine r_ldF (v := .sl _ _) ?_ | refine r_ldF (v := .own _ _ _ _) ?_ | refine r_ldF (v := .nils) ?_
              refine r_ldB ?_; refine r_bsl [Lkd.N ⟨namesM[i]!, versM[(g.nxt.val 4).toNat]!, shelM[(g.nxt.nxt.val 3).toNat]!, (g.nxt.nxt.nxt.val 1073741824), [dflW, fW]⟩] ?_; refine r_app1 ?_; refine r_faP ?_; refine r_stF _ (he := by exact rfl) ?_; refine reg_fin (env' := [_, _, _, _, _, _, _, _, _, _, _, _, _]) ?_; refine BQ.normal ?_; refine wp_reg ?_; refine r_mv ?_; refine r_add64 ?_; refine r_mv ?_; refine reg_fin (env' := [_, _, _, ⟨_, (.int _ _)⟩, _, _, _, _, _, _, _, _, _]) ?_; refine LQ.normal ?_
              have hB : featM g5 = ([dflW, fW], g5.nxt) := by simp [featM, hc4]
              have hst := step_mk (ls := ls) (i := i) hc1 hA hB
              exact ⟨(i + 1, g5.nxt, ls ++ [⟨namesM[i]!, versM[(g.nxt.val 4).toNat]!, shelM[(g.nxt.nxt.val 3).toNat]!, (g.nxt.nxt.nxt.val 1073741824), [dflW, fW]⟩]), ⟨by dsimp only; omega, by first | (simp only [Gs.nxt_i]; omega) | omega, by first | (simp only [Gs.nxt_i]; omega) | omega, by first | (simp only [List.length_append, List.length_cons, List.length_nil]; omega) | (dsimp only; omega), by rw [hr, show 4 - i = (4 - (i + 1)) + 1 by omega, step_run hst]⟩, by dsimp only; omega, (Ghost.to [(0, 0), (3, 3), (9, 9), (58, 1)] q7 q7 q6 (by (refine RnM.idn q7 q7 rfl ?_); (refine RnM.idn q7 q7 rfl ?_); refine RnM.ide q7 q7 q7 ?_; refine RnM.nl 58 q7 q7 rfl (by exact noLocs_map Lkd.N_noLoc _) ?_; exact RnM.nil))⟩
            · try simp only [b0, b1, b2, b3, b4, b5, b6, b7, b8, b9, b10, b11] at hc4
              refine wp_regseq ?_; refine r_eqlI ?_; refine r_mv ?_; refine reg_end (env' := [_, _, _, _, _, _, _, _, _, _, _, ⟨_, (.bool _)⟩, _]) ?_
              refine wp_cond (fun hc5 => ?_) (fun hc5 => ?_)
              · try simp only [b0, b1, b2, b3, b4, b5, b6, b7, b8, b9, b10, b11] at hc5
                refine wp_reg ?_
                have r2 := g5.nxt.val_range 2 (by omega)
                obtain hsp | hsp : g5.nxt.val 2 = 0 ∨ g5.nxt.val 2 = 1 := by omega
                · refine r_bsl [(.str _), (.str _)] ?_; refine r_mv ?_; refine r_callF (hc := h109 g5.nxt 2 (by omega) (by first | (simp only [Gs.nxt_i]; omega) | omega)) ?_
                  refine r_slO_lo 0 ?_; simp only [Nat.reduceAdd, Nat.reduceSub]
                  refine r_faP ?_; refine r_stF (Lkd.F namesM[i]! versM[(g.nxt.val 4).toNat]! shelM[(g.nxt.nxt.val 3).toNat]! (g.nxt.nxt.nxt.val 1073741824) (.own 53 1 0 2)) (he := by exact rfl) ?_; refine reg_fin (env' := [_, _, _, _, _, _, _, _, _, _, _, _, _]) ?_; refine BQ.normal ?_
                  refine wp_fz 53 ?_ (he := by simp only [fzE, fzD, fzL, fzM, fzB, delL, Nat.reduceEqDiff, if_true, if_false, and_self, true_and, and_true, false_and, and_false, Nat.zero_add, List.length_map, Nat.le_refl, List.drop_zero, take_map_len, reduceCtorEq, List.length_cons, List.length_nil, Nat.reduceAdd, Nat.reduceLeDiff, fzD_F, fzD_Gs, fzL_N]; exact rfl) (hm := by simp only [fzE, fzD, fzL, fzM, fzB, delL, Nat.reduceEqDiff, if_true, if_false, and_self, true_and, and_true, false_and, and_false, Nat.zero_add, List.length_map, Nat.le_refl, List.drop_zero, take_map_len, reduceCtorEq, List.length_cons, List.length_nil, Nat.reduceAdd, Nat.reduceLeDiff, fzD_F, fzD_Gs, fzL_N]; exact rfl)
                  refine wp_reg ?_; refine r_faP ?_
                  first | refine r_ldF (v := .sl _ _) ?_ | refine r_ldF (v := .own _ _ _ _) ?_ | refine r_ldF (v := .nils) ?_
                  refine r_ldB ?_; refine r_bsl [Lkd.N ⟨namesM[i]!, versM[(g.nxt.val 4).toNat]!, shelM[(g.nxt.nxt.val 3).toNat]!, (g.nxt.nxt.nxt.val 1073741824), [fW, dflW]⟩] ?_; refine r_app1 ?_; refine r_faP ?_; refine r_stF _ (he := by exact rfl) ?_; refine reg_fin (env' := [_, _, _, _, _, _, _, _, _, _, _, _, _]) ?_; refine BQ.normal ?_; refine wp_reg ?_; refine r_mv ?_; refine r_add64 ?_; refine r_mv ?_; refine reg_fin (env' := [_, _, _, ⟨_, (.int _ _)⟩, _, _, _, _, _, _, _, _, _]) ?_; refine LQ.normal ?_
                  have hB : featM g5 = ([fW, dflW], g5.nxt.nxt) := by simp [featM, hc5, hsp]
                  have hst := step_mk (ls := ls) (i := i) hc1 hA hB
                  exact ⟨(i + 1, g5.nxt.nxt, ls ++ [⟨namesM[i]!, versM[(g.nxt.val 4).toNat]!, shelM[(g.nxt.nxt.val 3).toNat]!, (g.nxt.nxt.nxt.val 1073741824), [fW, dflW]⟩]), ⟨by dsimp only; omega, by first | (simp only [Gs.nxt_i]; omega) | omega, by first | (simp only [Gs.nxt_i]; omega) | omega, by first | (simp only [List.length_append, List.length_cons, List.length_nil]; omega) | (dsimp only; omega), by rw [hr, show 4 - i = (4 - (i + 1)) + 1 by omega, step_run hst]⟩, by dsimp only; omega, (Ghost.to [(0, 0), (3, 3), (9, 9), (63, 1)] q7 q7 q6 (by (refine RnM.idn q7 q7 rfl ?_); (refine RnM.idn q7 q7 rfl ?_); refine RnM.ide q7 q7 q7 ?_; refine RnM.nl 63 q7 q7 rfl (by exact noLocs_map Lkd.N_noLoc _) ?_; exact RnM.nil))⟩
                · refine r_bsl [(.str _), (.str _)] ?_; refine r_mv ?_; refine r_callF (hc := h109 g5.nxt 2 (by omega) (by first | (simp only [Gs.nxt_i]; omega) | omega)) ?_
                  refine r_slO_lo 1 ?_; simp only [Nat.reduceAdd, Nat.reduceSub]
                  refine r_faP ?_; refine r_stF (Lkd.F namesM[i]! versM[(g.nxt.val 4).toNat]! shelM[(g.nxt.nxt.val 3).toNat]! (g.nxt.nxt.nxt.val 1073741824) (.own 53 1 1 1)) (he := by exact rfl) ?_; refine reg_fin (env' := [_, _, _, _, _, _, _, _, _, _, _, _, _]) ?_; refine BQ.normal ?_
                  refine wp_fz 53 ?_ (he := by simp only [fzE, fzD, fzL, fzM, fzB, delL, Nat.reduceEqDiff, if_true, if_false, and_self, true_and, and_true, false_and, and_false, Nat.zero_add, List.length_map, Nat.le_refl, List.drop_zero, take_map_len, reduceCtorEq, List.length_cons, List.length_nil, Nat.reduceAdd, Nat.reduceLeDiff, fzD_F, fzD_Gs, fzL_N]; exact rfl) (hm := by simp only [fzE, fzD, fzL, fzM, fzB, delL, Nat.reduceEqDiff, if_true, if_false, and_self, true_and, and_true, false_and, and_false, Nat.zero_add, List.length_map, Nat.le_refl, List.drop_zero, take_map_len, reduceCtorEq, List.length_cons, List.length_nil, Nat.reduceAdd, Nat.reduceLeDiff, fzD_F, fzD_Gs, fzL_N]; exact rfl)
                  refine wp_reg ?_; refine r_faP ?_
                  first | refine r_ldF (v := .sl _ _) ?_ | refine r_ldF (v := .own _ _ _ _) ?_ | refine r_ldF (v := .nils) ?_
                  refine r_ldB ?_; refine r_bsl [Lkd.N ⟨namesM[i]!, versM[(g.nxt.val 4).toNat]!, shelM[(g.nxt.nxt.val 3).toNat]!, (g.nxt.nxt.nxt.val 1073741824), [dflW]⟩] ?_; refine r_app1 ?_; refine r_faP ?_; refine r_stF _ (he := by exact rfl) ?_; refine reg_fin (env' := [_, _, _, _, _, _, _, _, _, _, _, _, _]) ?_; refine BQ.normal ?_; refine wp_reg ?_; refine r_mv ?_; refine r_add64 ?_; refine r_mv ?_; refine reg_fin (env' := [_, _, _, ⟨_, (.int _ _)⟩, _, _, _, _, _, _, _, _, _]) ?_; refine LQ.normal ?_
                  have hB : featM g5 = ([dflW], g5.nxt.nxt) := by simp [featM, hc5, hsp]
                  have hst := step_mk (ls := ls) (i := i) hc1 hA hB
                  exact ⟨(i + 1, g5.nxt.nxt, ls ++ [⟨namesM[i]!, versM[(g.nxt.val 4).toNat]!, shelM[(g.nxt.nxt.val 3).toNat]!, (g.nxt.nxt.nxt.val 1073741824), [dflW]⟩]), ⟨by dsimp only; omega, by first | (simp only [Gs.nxt_i]; omega) | omega, by first | (simp only [Gs.nxt_i]; omega) | omega, by first | (simp only [List.length_append, List.length_cons, List.length_nil]; omega) | (dsimp only; omega), by rw [hr, show 4 - i = (4 - (i + 1)) + 1 by omega, step_run hst]⟩, by dsimp only; omega, (Ghost.to [(0, 0), (3, 3), (9, 9), (63, 1)] q7 q7 q6 (by (refine RnM.idn q7 q7 rfl ?_); (refine RnM.idn q7 q7 rfl ?_); refine RnM.ide q7 q7 q7 ?_; refine RnM.nl 63 q7 q7 rfl (by exact noLocs_map Lkd.N_noLoc _) ?_; exact RnM.nil))⟩
              · try simp only [b0, b1, b2, b3, b4, b5, b6, b7, b8, b9, b10, b11] at hc5
                refine wp_skip ?_; refine BQ.normal ?_; refine wp_reg ?_; refine r_faP ?_
                first | refine r_ldF (v := .sl _ _) ?_ | refine r_ldF (v := .own _ _ _ _) ?_ | refine r_ldF (v := .nils) ?_
                refine r_ldB ?_; refine r_bsl [Lkd.N ⟨namesM[i]!, versM[(g.nxt.val 4).toNat]!, shelM[(g.nxt.nxt.val 3).toNat]!, (g.nxt.nxt.nxt.val 1073741824), []⟩] ?_; refine r_app1 ?_; refine r_faP ?_; refine r_stF _ (he := by exact rfl) ?_; refine reg_fin (env' := [_, _, _, _, _, _, _, _, _, _, _, _, _]) ?_; refine BQ.normal ?_; refine wp_reg ?_; refine r_mv ?_; refine r_add64 ?_; refine r_mv ?_; refine reg_fin (env' := [_, _, _, ⟨_, (.int _ _)⟩, _, _, _, _, _, _, _, _, _]) ?_; refine LQ.normal ?_
                have hB : featM g5 = ([], g5.nxt) := by simp [featM, hc3, hc4, hc5]
                have hst := step_mk (ls := ls) (i := i) hc1 hA hB
                exact ⟨(i + 1, g5.nxt, ls ++ [⟨namesM[i]!, versM[(g.nxt.val 4).toNat]!, shelM[(g.nxt.nxt.val 3).toNat]!, (g.nxt.nxt.nxt.val 1073741824), []⟩]), ⟨by dsimp only; omega, by first | (simp only [Gs.nxt_i]; omega) | omega, by first | (simp only [Gs.nxt_i]; omega) | omega, by first | (simp only [List.length_append, List.length_cons, List.length_nil]; omega) | (dsimp only; omega), by rw [hr, show 4 - i = (4 - (i + 1)) + 1 by omega, step_run hst]⟩, by dsimp only; omega, (Ghost.to [(0, 0), (3, 3), (9, 9), (57, 1)] q7 q7 q6 (by (refine RnM.idn q7 q7 rfl ?_); (refine RnM.idn q7 q7 rfl ?_); refine RnM.ide q7 q7 q7 ?_; refine RnM.nl 57 q7 q7 rfl (by exact noLocs_map Lkd.N_noLoc _) ?_; exact RnM.nil))⟩
      · refine r_faP ?_; refine r_ldF (v := (.str _)) ?_
        refine r_eqlS ?_; rw [decide_eq_false hsh]
        refine r_mv ?_; refine r_mv ?_; refine r_dead ?_; refine r_off (.bool false) ?_; refine r_and ?_; refine reg_end (env' := [_, _, _, _, _, _, _, ⟨_, (.bool _)⟩, _, _, _, _, _]) ?_
        generalize hg5 : g.nxt.nxt.nxt.nxt = g5
        have hg5i : g5.i = g.i + 4 := by rw [← hg5]; simp only [Gs.nxt_i]; omega
        refine wp_condseq (t := false) (fun h => by cases h) (fun _ => ?_)
        refine wp_skipseq ?_; refine wp_assoc ?_; refine wp_regseq ?_
        have hA : sumM g.nxt.nxt.nxt.nxt shelM[(g.nxt.nxt.val 3).toNat]! (g.nxt.nxt.nxt.val 1073741824) = ((g.nxt.nxt.nxt.val 1073741824), g5) := by simp only [sumM, if_neg hsh, hg5]
        refine r_mv ?_; refine r_callF (hc := h109 g5 4 (by omega) (by first | (simp only [Gs.nxt_i]; omega) | omega)) ?_; refine reg_end (env' := [_, _, _, _, _, _, _, _, ⟨_, (.int _ _)⟩, _, _, _, _]) ?_
        refine wp_blockseq ?_ hm
        refine wp_regseq ?_; refine r_eqlI ?_; refine r_mv ?_; refine reg_end (env' := [_, _, _, _, _, _, _, _, _, ⟨_, (.bool _)⟩, _, _, _]) ?_
        refine wp_cond (fun hc3 => ?_) (fun hc3 => ?_)
        · try simp only [b0, b1, b2, b3, b4, b5, b6, b7, b8, b9, b10, b11] at hc3
          refine wp_reg ?_; refine r_bsl [(.str _)] ?_; refine r_faP ?_; refine r_stF (Lkd.F namesM[i]! versM[(g.nxt.val 4).toNat]! shelM[(g.nxt.nxt.val 3).toNat]! (g.nxt.nxt.nxt.val 1073741824) (.own 49 1 0 1)) (he := by exact rfl) ?_; refine reg_fin (env' := [_, _, _, _, _, _, _, _, _, _, _, _, _]) ?_; refine BQ.normal ?_
          refine wp_fz 49 ?_ (he := by simp only [fzE, fzD, fzL, fzM, fzB, delL, Nat.reduceEqDiff, if_true, if_false, and_self, true_and, and_true, false_and, and_false, Nat.zero_add, List.length_map, Nat.le_refl, List.drop_zero, take_map_len, reduceCtorEq, List.length_cons, List.length_nil, Nat.reduceAdd, Nat.reduceLeDiff, fzD_F, fzD_Gs, fzL_N]; exact rfl) (hm := by simp only [fzE, fzD, fzL, fzM, fzB, delL, Nat.reduceEqDiff, if_true, if_false, and_self, true_and, and_true, false_and, and_false, Nat.zero_add, List.length_map, Nat.le_refl, List.drop_zero, take_map_len, reduceCtorEq, List.length_cons, List.length_nil, Nat.reduceAdd, Nat.reduceLeDiff, fzD_F, fzD_Gs, fzL_N]; exact rfl)
          refine wp_reg ?_; refine r_faP ?_
          first | refine r_ldF (v := .sl _ _) ?_ | refine r_ldF (v := .own _ _ _ _) ?_ | refine r_ldF (v := .nils) ?_
          refine r_ldB ?_; refine r_bsl [Lkd.N ⟨namesM[i]!, versM[(g.nxt.val 4).toNat]!, shelM[(g.nxt.nxt.val 3).toNat]!, (g.nxt.nxt.nxt.val 1073741824), [dflW]⟩] ?_; refine r_app1 ?_; refine r_faP ?_; refine r_stF _ (he := by exact rfl) ?_; refine reg_fin (env' := [_, _, _, _, _, _, _, _, _, _, _, _, _]) ?_; refine BQ.normal ?_; refine wp_reg ?_; refine r_mv ?_; refine r_add64 ?_; refine r_mv ?_; refine reg_fin (env' := [_, _, _, ⟨_, (.int _ _)⟩, _, _, _, _, _, _, _, _, _]) ?_; refine LQ.normal ?_
          have hB : featM g5 = ([dflW], g5.nxt) := by simp [featM, hc3]
          have hst := step_mk (ls := ls) (i := i) hc1 hA hB
          exact ⟨(i + 1, g5.nxt, ls ++ [⟨namesM[i]!, versM[(g.nxt.val 4).toNat]!, shelM[(g.nxt.nxt.val 3).toNat]!, (g.nxt.nxt.nxt.val 1073741824), [dflW]⟩]), ⟨by dsimp only; omega, by first | (simp only [Gs.nxt_i]; omega) | omega, by first | (simp only [Gs.nxt_i]; omega) | omega, by first | (simp only [List.length_append, List.length_cons, List.length_nil]; omega) | (dsimp only; omega), by rw [hr, show 4 - i = (4 - (i + 1)) + 1 by omega, step_run hst]⟩, by dsimp only; omega, (Ghost.to [(0, 0), (3, 3), (9, 9), (56, 1)] q7 q7 q6 (by (refine RnM.idn q7 q7 rfl ?_); (refine RnM.idn q7 q7 rfl ?_); refine RnM.ide q7 q7 q7 ?_; refine RnM.nl 56 q7 q7 rfl (by exact noLocs_map Lkd.N_noLoc _) ?_; exact RnM.nil))⟩
        · try simp only [b0, b1, b2, b3, b4, b5, b6, b7, b8, b9, b10, b11] at hc3
          refine wp_regseq ?_; refine r_eqlI ?_; refine r_mv ?_; refine reg_end (env' := [_, _, _, _, _, _, _, _, _, _, ⟨_, (.bool _)⟩, _, _]) ?_
          refine wp_cond (fun hc4 => ?_) (fun hc4 => ?_)
          · try simp only [b0, b1, b2, b3, b4, b5, b6, b7, b8, b9, b10, b11] at hc4
            refine wp_reg ?_; refine r_bsl [(.str _), (.str _)] ?_; refine r_faP ?_; refine r_stF (Lkd.F namesM[i]! versM[(g.nxt.val 4).toNat]! shelM[(g.nxt.nxt.val 3).toNat]! (g.nxt.nxt.nxt.val 1073741824) (.own 51 1 0 2)) (he := by exact rfl) ?_; refine reg_fin (env' := [_, _, _, _, _, _, _, _, _, _, _, _, _]) ?_; refine BQ.normal ?_
            refine wp_fz 51 ?_ (he := by simp only [fzE, fzD, fzL, fzM, fzB, delL, Nat.reduceEqDiff, if_true, if_false, and_self, true_and, and_true, false_and, and_false, Nat.zero_add, List.length_map, Nat.le_refl, List.drop_zero, take_map_len, reduceCtorEq, List.length_cons, List.length_nil, Nat.reduceAdd, Nat.reduceLeDiff, fzD_F, fzD_Gs, fzL_N]; exact rfl) (hm := by simp only [fzE, fzD, fzL, fzM, fzB, delL, Nat.reduceEqDiff, if_true, if_false, and_self, true_and, and_true, false_and, and_false, Nat.zero_add, List.length_map, Nat.le_refl, List.drop_zero, take_map_len, reduceCtorEq, List.length_cons, List.length_nil, Nat.reduceAdd, Nat.reduceLeDiff, fzD_F, fzD_Gs, fzL_N]; exact rfl)
            refine wp_reg ?_; refine r_faP ?_
            first | refine r_ldF (v := .sl _ _) ?_ | refine r_ldF (v := .own _ _ _ _) ?_ | refine r_ldF (v := .nils) ?_
            refine r_ldB ?_; refine r_bsl [Lkd.N ⟨namesM[i]!, versM[(g.nxt.val 4).toNat]!, shelM[(g.nxt.nxt.val 3).toNat]!, (g.nxt.nxt.nxt.val 1073741824), [dflW, fW]⟩] ?_; refine r_app1 ?_; refine r_faP ?_; refine r_stF _ (he := by exact rfl) ?_; refine reg_fin (env' := [_, _, _, _, _, _, _, _, _, _, _, _, _]) ?_; refine BQ.normal ?_; refine wp_reg ?_; refine r_mv ?_; refine r_add64 ?_; refine r_mv ?_; refine reg_fin (env' := [_, _, _, ⟨_, (.int _ _)⟩, _, _, _, _, _, _, _, _, _]) ?_; refine LQ.normal ?_
            have hB : featM g5 = ([dflW, fW], g5.nxt) := by simp [featM, hc4]
            have hst := step_mk (ls := ls) (i := i) hc1 hA hB
            exact ⟨(i + 1, g5.nxt, ls ++ [⟨namesM[i]!, versM[(g.nxt.val 4).toNat]!, shelM[(g.nxt.nxt.val 3).toNat]!, (g.nxt.nxt.nxt.val 1073741824), [dflW, fW]⟩]), ⟨by dsimp only; omega, by first | (simp only [Gs.nxt_i]; omega) | omega, by first | (simp only [Gs.nxt_i]; omega) | omega, by first | (simp only [List.length_append, List.length_cons, List.length_nil]; omega) | (dsimp only; omega), by rw [hr, show 4 - i = (4 - (i + 1)) + 1 by omega, step_run hst]⟩, by dsimp only; omega, (Ghost.to [(0, 0), (3, 3), (9, 9), (58, 1)] q7 q7 q6 (by (refine RnM.idn q7 q7 rfl ?_); (refine RnM.idn q7 q7 rfl ?_); refine RnM.ide q7 q7 q7 ?_; refine RnM.nl 58 q7 q7 rfl (by exact noLocs_map Lkd.N_noLoc _) ?_; exact RnM.nil))⟩
          · try simp only [b0, b1, b2, b3, b4, b5, b6, b7, b8, b9, b10, b11] at hc4
            refine wp_regseq ?_; refine r_eqlI ?_; refine r_mv ?_; refine reg_end (env' := [_, _, _, _, _, _, _, _, _, _, _, ⟨_, (.bool _)⟩, _]) ?_
            refine wp_cond (fun hc5 => ?_) (fun hc5 => ?_)
            · try simp only [b0, b1, b2, b3, b4, b5, b6, b7, b8, b9, b10, b11] at hc5
              refine wp_reg ?_
              have r2 := g5.nxt.val_range 2 (by omega)
              obtain hsp | hsp : g5.nxt.val 2 = 0 ∨ g5.nxt.val 2 = 1 := by omega
              · refine r_bsl [(.str _), (.str _)] ?_; refine r_mv ?_; refine r_callF (hc := h109 g5.nxt 2 (by omega) (by first | (simp only [Gs.nxt_i]; omega) | omega)) ?_
                refine r_slO_lo 0 ?_; simp only [Nat.reduceAdd, Nat.reduceSub]
                refine r_faP ?_; refine r_stF (Lkd.F namesM[i]! versM[(g.nxt.val 4).toNat]! shelM[(g.nxt.nxt.val 3).toNat]! (g.nxt.nxt.nxt.val 1073741824) (.own 53 1 0 2)) (he := by exact rfl) ?_; refine reg_fin (env' := [_, _, _, _, _, _, _, _, _, _, _, _, _]) ?_; refine BQ.normal ?_
                refine wp_fz 53 ?_ (he := by simp only [fzE, fzD, fzL, fzM, fzB, delL, Nat.reduceEqDiff, if_true, if_false, and_self, true_and, and_true, false_and, and_false, Nat.zero_add, List.length_map, Nat.le_refl, List.drop_zero, take_map_len, reduceCtorEq, List.length_cons, List.length_nil, Nat.reduceAdd, Nat.reduceLeDiff, fzD_F, fzD_Gs, fzL_N]; exact rfl) (hm := by simp only [fzE, fzD, fzL, fzM, fzB, delL, Nat.reduceEqDiff, if_true, if_false, and_self, true_and, and_true, false_and, and_false, Nat.zero_add, List.length_map, Nat.le_refl, List.drop_zero, take_map_len, reduceCtorEq, List.length_cons, List.length_nil, Nat.reduceAdd, Nat.reduceLeDiff, fzD_F, fzD_Gs, fzL_N]; exact rfl)
                refine wp_reg ?_; refine r_faP ?_
                first | refine r_ldF (v := .sl _ _) ?_ | refine r_ldF (v := .own _ _ _ _) ?_ | refine r_ldF (v := .nils) ?_
                refine r_ldB ?_; refine r_bsl [Lkd.N ⟨namesM[i]!, versM[(g.nxt.val 4).toNat]!, shelM[(g.nxt.nxt.val 3).toNat]!, (g.nxt.nxt.nxt.val 1073741824), [fW, dflW]⟩] ?_; refine r_app1 ?_; refine r_faP ?_; refine r_stF _ (he := by exact rfl) ?_; refine reg_fin (env' := [_, _, _, _, _, _, _, _, _, _, _, _, _]) ?_; refine BQ.normal ?_; refine wp_reg ?_; refine r_mv ?_; refine r_add64 ?_; refine r_mv ?_; refine reg_fin (env' := [_, _, _, ⟨_, (.int _ _)⟩, _, _, _, _, _, _, _, _, _]) ?_; refine LQ.normal ?_
                have hB : featM g5 = ([fW, dflW], g5.nxt.nxt) := by simp [featM, hc5, hsp]
                have hst := step_mk (ls := ls) (i := i) hc1 hA hB
                exact ⟨(i + 1, g5.nxt.nxt, ls ++ [⟨namesM[i]!, versM[(g.nxt.val 4).toNat]!, shelM[(g.nxt.nxt.val 3).toNat]!, (g.nxt.nxt.nxt.val 1073741824), [fW, dflW]⟩]), ⟨by dsimp only; omega, by first | (simp only [Gs.nxt_i]; omega) | omega, by first | (simp only [Gs.nxt_i]; omega) | omega, by first | (simp only [List.length_append, List.length_cons, List.length_nil]; omega) | (dsimp only; omega), by rw [hr, show 4 - i = (4 - (i + 1)) + 1 by omega, step_run hst]⟩, by dsimp only; omega, (Ghost.to [(0, 0), (3, 3), (9, 9), (63, 1)] q7 q7 q6 (by (refine RnM.idn q7 q7 rfl ?_); (refine RnM.idn q7 q7 rfl ?_); refine RnM.ide q7 q7 q7 ?_; refine RnM.nl 63 q7 q7 rfl (by exact noLocs_map Lkd.N_noLoc _) ?_; exact RnM.nil))⟩
              · refine r_bsl [(.str _), (.str _)] ?_; refine r_mv ?_; refine r_callF (hc := h109 g5.nxt 2 (by omega) (by first | (simp only [Gs.nxt_i]; omega) | omega)) ?_
                refine r_slO_lo 1 ?_; simp only [Nat.reduceAdd, Nat.reduceSub]
                refine r_faP ?_; refine r_stF (Lkd.F namesM[i]! versM[(g.nxt.val 4).toNat]! shelM[(g.nxt.nxt.val 3).toNat]! (g.nxt.nxt.nxt.val 1073741824) (.own 53 1 1 1)) (he := by exact rfl) ?_; refine reg_fin (env' := [_, _, _, _, _, _, _, _, _, _, _, _, _]) ?_; refine BQ.normal ?_
                refine wp_fz 53 ?_ (he := by simp only [fzE, fzD, fzL, fzM, fzB, delL, Nat.reduceEqDiff, if_true, if_false, and_self, true_and, and_true, false_and, and_false, Nat.zero_add, List.length_map, Nat.le_refl, List.drop_zero, take_map_len, reduceCtorEq, List.length_cons, List.length_nil, Nat.reduceAdd, Nat.reduceLeDiff, fzD_F, fzD_Gs, fzL_N]; exact rfl) (hm := by simp only [fzE, fzD, fzL, fzM, fzB, delL, Nat.reduceEqDiff, if_true, if_false, and_self, true_and, and_true, false_and, and_false, Nat.zero_add, List.length_map, Nat.le_refl, List.drop_zero, take_map_len, reduceCtorEq, List.length_cons, List.length_nil, Nat.reduceAdd, Nat.reduceLeDiff, fzD_F, fzD_Gs, fzL_N]; exact rfl)
                refine wp_reg ?_; refine r_faP ?_
                first | refine r_ldF (v := .sl _ _) ?_ | refine r_ldF (v := .own _ _ _ _) ?_ | refine r_ldF (v := .nils) ?_
                refine r_ldB ?_; refine r_bsl [Lkd.N ⟨namesM[i]!, versM[(g.nxt.val 4).toNat]!, shelM[(g.nxt.nxt.val 3).toNat]!, (g.nxt.nxt.nxt.val 1073741824), [dflW]⟩] ?_; refine r_app1 ?_; refine r_faP ?_; refine r_stF _ (he := by exact rfl) ?_; refine reg_fin (env' := [_, _, _, _, _, _, _, _, _, _, _, _, _]) ?_; refine BQ.normal ?_; refine wp_reg ?_; refine r_mv ?_; refine r_add64 ?_; refine r_mv ?_; refine reg_fin (env' := [_, _, _, ⟨_, (.int _ _)⟩, _, _, _, _, _, _, _, _, _]) ?_; refine LQ.normal ?_
                have hB : featM g5 = ([dflW], g5.nxt.nxt) := by simp [featM, hc5, hsp]
                have hst := step_mk (ls := ls) (i := i) hc1 hA hB
                exact ⟨(i + 1, g5.nxt.nxt, ls ++ [⟨namesM[i]!, versM[(g.nxt.val 4).toNat]!, shelM[(g.nxt.nxt.val 3).toNat]!, (g.nxt.nxt.nxt.val 1073741824), [dflW]⟩]), ⟨by dsimp only; omega, by first | (simp only [Gs.nxt_i]; omega) | omega, by first | (simp only [Gs.nxt_i]; omega) | omega, by first | (simp only [List.length_append, List.length_cons, List.length_nil]; omega) | (dsimp only; omega), by rw [hr, show 4 - i = (4 - (i + 1)) + 1 by omega, step_run hst]⟩, by dsimp only; omega, (Ghost.to [(0, 0), (3, 3), (9, 9), (63, 1)] q7 q7 q6 (by (refine RnM.idn q7 q7 rfl ?_); (refine RnM.idn q7 q7 rfl ?_); refine RnM.ide q7 q7 q7 ?_; refine RnM.nl 63 q7 q7 rfl (by exact noLocs_map Lkd.N_noLoc _) ?_; exact RnM.nil))⟩
            · try simp only [b0, b1, b2, b3, b4, b5, b6, b7, b8, b9, b10, b11] at hc5
              refine wp_skip ?_; refine BQ.normal ?_; refine wp_reg ?_; refine r_faP ?_
              first | refine r_ldF (v := .sl _ _) ?_ | refine r_ldF (v := .own _ _ _ _) ?_ | refine r_ldF (v := .nils) ?_
              refine r_ldB ?_; refine r_bsl [Lkd.N ⟨namesM[i]!, versM[(g.nxt.val 4).toNat]!, shelM[(g.nxt.nxt.val 3).toNat]!, (g.nxt.nxt.nxt.val 1073741824), []⟩] ?_; refine r_app1 ?_; refine r_faP ?_; refine r_stF _ (he := by exact rfl) ?_; refine reg_fin (env' := [_, _, _, _, _, _, _, _, _, _, _, _, _]) ?_; refine BQ.normal ?_; refine wp_reg ?_; refine r_mv ?_; refine r_add64 ?_; refine r_mv ?_; refine reg_fin (env' := [_, _, _, ⟨_, (.int _ _)⟩, _, _, _, _, _, _, _, _, _]) ?_; refine LQ.normal ?_
              have hB : featM g5 = ([], g5.nxt) := by simp [featM, hc3, hc4, hc5]
              have hst := step_mk (ls := ls) (i := i) hc1 hA hB
              exact ⟨(i + 1, g5.nxt, ls ++ [⟨namesM[i]!, versM[(g.nxt.val 4).toNat]!, shelM[(g.nxt.nxt.val 3).toNat]!, (g.nxt.nxt.nxt.val 1073741824), []⟩]), ⟨by dsimp only; omega, by first | (simp only [Gs.nxt_i]; omega) | omega, by first | (simp only [Gs.nxt_i]; omega) | omega, by first | (simp only [List.length_append, List.length_cons, List.length_nil]; omega) | (dsimp only; omega), by rw [hr, show 4 - i = (4 - (i + 1)) + 1 by omega, step_run hst]⟩, by dsimp only; omega, (Ghost.to [(0, 0), (3, 3), (9, 9), (57, 1)] q7 q7 q6 (by (refine RnM.idn q7 q7 rfl ?_); (refine RnM.idn q7 q7 rfl ?_); refine RnM.ide q7 q7 q7 ?_; refine RnM.nl 57 q7 q7 rfl (by exact noLocs_map Lkd.N_noLoc _) ?_; exact RnM.nil))⟩
  · try simp only [b0, b1, b2, b3, b4, b5, b6, b7, b8, b9, b10, b11] at hc0
    refine wp_exitseq ?_; refine LQ.out ?_; refine wp_regseq ?_; refine r_ldB ?_; refine r_stF _ ?_; refine reg_end (env' := [_, _, _, _, _, _, _, _, _, _, _, _, _]) ?_; refine wp_ret ?_
    refine res_of trivial q2 ?_ ?_
    · exact lckN_O (l := 1) E ls rfl
    · have h4 : i = 4 := by omega
      subst h4
      rw [hr]
      exact lckN_V (l := 1) E ls rfl
def C160 (Γ : Ctx) : Prop := ∀ (ks : List Int), Γ.pre 160 [.sl 1 (ks.map (D.int .i64))] ∧ Γ.val 160 [.sl 1 (ks.map (D.int .i64))] = Lck.D (lockM ks)
end Go.Abs
end
section
namespace Go.Abs
open Go
/-- linchpin/linchpinmade.BentLock -/
def made_BentLock : AFunc := { np := 4, ns := 22, res := [⟨4, some (4, true)⟩], rsh := [[.a, .a, .a, .sl 9 [.a, .a, .a, .a, .a, .a, .a, .a, .sl 1 [.a]]]], body := (.seq (.reg false [⟨.box 4 (.s 0), none⟩, ⟨.box 4 (.c (.agg [.str [], .str [], .str [], .nils])), none⟩] [(5, 0), (4, 1)]) (.seq (.reg false [⟨.fa 0 (.s 5), none⟩, ⟨.ld 3 true (.l 0), none⟩, ⟨.build [.str [], .str [], .str [], .nils] [(0, 3, (.l 1))], none⟩, ⟨.box 4 (.c (.agg [.str [], .str [], .str [], .nils])), none⟩, ⟨.st 4 (.l 3) (.l 2), none⟩] [(9, 3)]) (.seq (.seq (.reg false [⟨.mv (.c (.int .i64 0)), none⟩] [(6, 0)]) (.block 0 (.loop (.seq (.seq (.reg false [⟨.mv (.s 6), none⟩, ⟨.fa 3 (.s 5), none⟩, ⟨.ld 1 false (.l 1), none⟩, ⟨.len (.l 2), none⟩, ⟨.bin .lss (.l 0) (.l 3), none⟩] [(7, 4)]) (.cond (.s 7) .skip (.exit 0))) (.seq (.block 1 (.seq (.reg false [⟨.fa 3 (.s 5), none⟩, ⟨.ld 1 false (.l 0), none⟩, ⟨.mv (.s 6), none⟩, ⟨.ia 9 (.l 1) (.l 2), none⟩, ⟨.ld 9 true (.l 3), none⟩, ⟨.box 9 (.c (.agg [.str [], .int .i64 0, .int .i64 0, .int .i64 0, .str [], .str [], .str [], .int .u64 0, .nils])), none⟩, ⟨.st 9 (.l 5) (.l 4), none⟩] [(8, 5)]) (.seq (.reg false [⟨.fa 8 (.s 8), none⟩, ⟨.ld 1 false (.l 0), none⟩, ⟨.app 1 (.c (.nils)) (.l 1), none⟩, ⟨.fa 8 (.s 8), none⟩, ⟨.st 1 (.l 3) (.l 2), none⟩] []) (.reg false [⟨.fa 3 (.s 9), none⟩, ⟨.ld 1 false (.l 0), none⟩, ⟨.ld 9 true (.s 8), none⟩, ⟨.bsl 9 (.agg [.str [], .int .i64 0, .int .i64 0, .int .i64 0, .str [], .str [], .str [], .int .u64 0, .nils]) 1 [(0, (.l 2))], none⟩, ⟨.app 9 (.l 1) (.l 3), none⟩, ⟨.fa 3 (.s 9), none⟩, ⟨.st 1 (.l 5) (.l 4), none⟩] [])))) (.reg false [⟨.mv (.s 6), none⟩, ⟨.bin .add (.l 0) (.c (.int .i64 1)), none⟩, ⟨.mv (.l 1), none⟩] [(6, 2)])))))) (.seq (.seq (.reg false [⟨.fa 3 (.s 9), none⟩, ⟨.ld 1 false (.l 0), none⟩, ⟨.len (.l 1), none⟩, ⟨.bin .eql (.l 2) (.c (.int .i64 0)), none⟩] [(10, 3)]) (.cond (.s 10) (.seq (.reg false [⟨.ld 4 true (.s 9), none⟩, ⟨.st 4 (.s 4) (.l 0), none⟩] []) .ret) .skip)) (.seq (.reg false [⟨.mv (.s 1), none⟩, ⟨.fa 3 (.s 9), none⟩, ⟨.ld 1 false (.l 1), none⟩, ⟨.len (.l 2), none⟩, ⟨.call 25 [(.l 0), (.l 3)] [[.a], [.a]], none⟩, ⟨.mv (.l 4), none⟩] [(11, 5)]) (.seq (.reg false [⟨.fa 3 (.s 9), none⟩, ⟨.ld 1 false (.l 0), none⟩, ⟨.mv (.s 11), none⟩, ⟨.ia 9 (.l 1) (.l 2), none⟩, ⟨.mv (.l 3), none⟩] [(14, 4)]) (.seq (.seq (.reg false [⟨.mv (.s 2), none⟩, ⟨.call 25 [(.l 0), (.c (.int .i64 8))] [[.a], [.a]], none⟩] [(12, 1)]) (.block 2 (.seq (.reg false [⟨.bin .eql (.s 12) (.c (.int .i64 0)), none⟩, ⟨.mv (.l 0), none⟩] [(13, 1)]) (.cond (.s 13) (.reg false [⟨.mv (.s 14), none⟩, ⟨.bsl 1 (.str []) 7 [(0, (.c (.str [97, 110, 116]))), (1, (.c (.str [98, 101, 101]))), (2, (.c (.str [99, 111, 119]))), (3, (.c (.str [100, 111, 103]))), (4, (.c (.str [101, 108, 107]))), (5, (.c (.str [65, 110, 116]))), (6, (.c (.str [])))], none⟩, ⟨.mv (.s 3), none⟩, ⟨.call 25 [(.l 2), (.c (.int .i64 7))] [[.a], [.a]], none⟩, ⟨.ia 1 (.l 1) (.l 3), none⟩, ⟨.ld 1 false (.l 4), none⟩, ⟨.nilck (.l 0), none⟩, ⟨.fa 0 (.l 6), none⟩, ⟨.st 1 (.l 7) (.l 5), none⟩] []) (.seq (.reg false [⟨.bin .eql (.s 12) (.c (.int .i64 1)), none⟩, ⟨.mv (.l 0), none⟩] [(15, 1)]) (.cond (.s 15) (.reg false [⟨.mv (.s 14), none⟩, ⟨.call 112 [] [], none⟩, ⟨.mv (.s 3), none⟩, ⟨.call 25 [(.l 2), (.c (.int .i64 4))] [[.a], [.a]], none⟩, ⟨.ia 5 (.l 1) (.l 3), none⟩, ⟨.ld 5 true (.l 4), none⟩, ⟨.nilck (.l 0), none⟩, ⟨.fa 1 (.l 6), none⟩, ⟨.st 5 (.l 7) (.l 5), none⟩] []) (.seq (.reg false [⟨.bin .eql (.s 12) (.c (.int .i64 2)), none⟩, ⟨.mv (.l 0), none⟩] [(16, 1)]) (.cond (.s 16) (.reg false [⟨.mv (.s 14), none⟩, ⟨.bsl 1 (.str []) 5 [(0, (.c (.str [109, 97, 105, 110]))), (1, (.c (.str [115, 105, 100, 101]))), (2, (.c (.str []))), (3, (.c (.str [101, 108, 115, 101]))), (4, (.c (.str [45])))], none⟩, ⟨.mv (.s 3), none⟩, ⟨.call 25 [(.l 2), (.c (.int .i64 5))] [[.a], [.a]], none⟩, ⟨.ia 1 (.l 1) (.l 3), none⟩, ⟨.ld 1 false (.l 4), none⟩, ⟨.nilck (.l 0), none⟩, ⟨.fa 6 (.l 6), none⟩, ⟨.st 1 (.l 7) (.l 5), none⟩] []) (.seq (.reg false [⟨.bin .eql (.s 12) (.c (.int .i64 3)), none⟩, ⟨.mv (.l 0), none⟩] [(17, 1)]) (.cond (.s 17) (.reg true [⟨.mv (.s 14), none⟩, ⟨.mv (.s 14), none⟩, ⟨.nilck (.l 1), none⟩, ⟨.fa 7 (.l 2), none⟩, ⟨.ld 1 false (.l 3), none⟩, ⟨.mv (.s 3), none⟩, ⟨.call 25 [(.l 5), (.c (.int .i64 3))] [[.a], [.a]], none⟩, ⟨.cvi .u64 (.l 6), none⟩, ⟨.bin .add (.l 4) (.l 7), none⟩, ⟨.nilck (.l 0), none⟩, ⟨.fa 7 (.l 9), none⟩, ⟨.st 1 (.l 10) (.l 8), none⟩] []) (.seq (.reg false [⟨.bin .eql (.s 12) (.c (.int .i64 4)), none⟩, ⟨.mv (.l 0), none⟩] [(18, 1)]) (.cond (.s 18) (.reg true [⟨.mv (.s 14), none⟩, ⟨.mv (.s 14), none⟩, ⟨.nilck (.l 1), none⟩, ⟨.fa 8 (.l 2), none⟩, ⟨.ld 1 false (.l 3), none⟩, ⟨.bsl 1 (.str []) 3 [(0, (.c (.str [103]))), (1, (.c (.str [100, 101, 102, 97, 117, 108, 116]))), (2, (.c (.str [102])))], none⟩, ⟨.mv (.s 3), none⟩, ⟨.call 25 [(.l 6), (.c (.int .i64 3))] [[.a], [.a]], none⟩, ⟨.ia 1 (.l 5) (.l 7), none⟩, ⟨.ld 1 false (.l 8), none⟩, ⟨.bsl 1 (.str []) 1 [(0, (.l 9))], none⟩, ⟨.app 1 (.l 4) (.l 10), none⟩, ⟨.nilck (.l 0), none⟩, ⟨.fa 8 (.l 12), none⟩, ⟨.st 1 (.l 13) (.l 11), none⟩] []) (.seq (.reg false [⟨.bin .eql (.s 12) (.c (.int .i64 5)), none⟩, ⟨.mv (.l 0), none⟩] [(19, 1)]) (.cond (.s 19) (.reg false [⟨.mv (.s 14), none⟩, ⟨.bsl 1 (.str []) 3 [(0, (.c (.str []))), (1, (.c (.str [98, 49]))), (2, (.c (.str [43])))], none⟩, ⟨.mv (.s 3), none⟩, ⟨.call 25 [(.l 2), (.c (.int .i64 3))] [[.a], [.a]], none⟩, ⟨.ia 1 (.l 1) (.l 3), none⟩, ⟨.ld 1 false (.l 4), none⟩, ⟨.nilck (.l 0), none⟩, ⟨.fa 1 (.l 6), none⟩, ⟨.fa 4 (.l 7), none⟩, ⟨.st 1 (.l 8) (.l 5), none⟩] []) (.seq (.reg false [⟨.bin .eql (.s 12) (.c (.int .i64 6)), none⟩, ⟨.mv (.l 0), none⟩] [(20, 1)]) (.cond (.s 20) (.reg true [⟨.fa 3 (.s 9), none⟩, ⟨.ld 1 false (.l 0), none⟩, ⟨.mv (.s 11), none⟩, ⟨.slA 9 (.l 1) none (some (.l 2)), none⟩, ⟨.appN 9 (.l 3), none⟩, ⟨.fa 3 (.s 9), none⟩, ⟨.ld 1 false (.l 5), none⟩, ⟨.mv (.s 11), none⟩, ⟨.bin .add (.l 7) (.c (.int .i64 1)), none⟩, ⟨.slA 9 (.l 6) (some (.l 8)) none, none⟩, ⟨.app 9 (.l 4) (.l 9), none⟩, ⟨.fa 3 (.s 9), none⟩, ⟨.st 1 (.l 11) (.l 10), none⟩] []) (.seq (.reg false [⟨.bin .eql (.s 12) (.c (.int .i64 7)), none⟩, ⟨.mv (.l 0), none⟩] [(21, 1)]) (.cond (.s 21) (.reg false [⟨.mv (.s 3), none⟩, ⟨.call 29 [(.l 0)] [[.a]], none⟩, ⟨.fa 0 (.s 9), none⟩, ⟨.st 3 (.l 2) (.l 1), none⟩] []) .skip)))))))))))))))))) (.seq (.reg false [⟨.ld 4 true (.s 9), none⟩, ⟨.st 4 (.s 4) (.l 0), none⟩] []) .ret)))))))) }
theorem w93 {Γ : Ctx} (hm : (Γ.at 0).Mono) (h25 : C25 (Γ.at 0)) (h29 : C29 (Γ.at 0)) (h112 : C112 (Γ.at 0)) (l : Lck) (pa : Int) (pw : Int) (pb : Int) (hp0 : l.sm) : wpA (Γ.at 0) made_BentLock.body (Res made_BentLock (Lck.D (bentM l pa pw pb)) : Ex → List Ent → St → Prop) (env0 made_BentLock [Lck.D l, .int .i64 pa, .int .i64 pw, .int .i64 pb]) ⟨0, []⟩ := by
  show wpA _ _ _ [⟨true, Lck.D l⟩, ⟨true, .int .i64 pa⟩, ⟨true, .int .i64 pw⟩, ⟨true, .int .i64 pb⟩, .un, .un, .un, .un, .un, .un, .un, .un, .un, .un, .un, .un, .un, .un, .un, .un, .un, .un] ⟨0, []⟩
  obtain ⟨k, hk⟩ : ∃ k : Nat, k = (placeI pa l.lines.length).toNat := ⟨_, rfl⟩
  have hsz := hp0.1
  refine wp_regseq ?_; refine r_box ?_; refine r_box ?_; refine reg_end (env' := [_, _, _, _, ⟨_, _⟩, ⟨_, _⟩, _, _, _, _, _, _, _, _, _, _, _, _, _, _, _, _]) ?_; refine wp_regseq ?_; refine r_faP ?_; refine r_ldF (v := (Env.D _)) ?_; refine r_build _ ?_; refine r_box ?_; refine r_stF _ ?_; refine reg_end (env' := [_, _, _, _, _, _, _, _, _, ⟨_, _⟩, _, _, _, _, _, _, _, _, _, _, _, _]) ?_; refine wp_assoc ?_; refine wp_regseq ?_; refine r_mv ?_; refine reg_end (env' := [_, _, _, _, _, _, ⟨_, (.int _ _)⟩, _, _, _, _, _, _, _, _, _, _, _, _, _, _, _]) ?_
  refine wp_for hm (ι := Nat) (fun i => [.un, ⟨true, .int .i64 pa⟩, ⟨true, .int .i64 pw⟩, ⟨true, .int .i64 pb⟩, ⟨true, .ptr 1 4 0 0⟩, ⟨true, .ptr 0 4 0 0⟩, ⟨true, .int .i64 (i : Nat)⟩, .un, .un, ⟨true, .ptr 5 4 0 0⟩, .un, .un, .un, .un, .un, .un, .un, .un, .un, .un, .un, .un]) (fun i => [(0, .buf 4 [Lck.D l]), (1, .buf 4 [.agg [.str [], .str [], .str [], .nils]]), (5, .buf 4 [.agg [.str l.env.e0, .str l.env.e1, .str l.env.e2, .own 2 9 0 (List.range i).length]]), (2, .buf 9 ((List.range i).map (bq 3 l.lines[k]!.feats.length l.lines k))), (3, .buf 1 (if k < i then l.lines[k]!.feats.map D.str else []))]) 8 (fun i => i ≤ l.lines.length) (fun i => l.lines.length - i) 0 (by simp) (Ghost.to [(0, 0), (1, 1), (5, 5)] q7 q7 q6 (by (refine RnM.idn q7 q7 rfl ?_); (refine RnM.idn q7 q7 rfl ?_); refine RnM.ni 5 q7 q7 (by exact ⟨_, _, rfl, ⟨_, rfl, ⟨_, _, rfl, ⟨rfl, rfl⟩, ⟨_, _, rfl, ⟨rfl, rfl⟩, ⟨_, _, rfl, ⟨rfl, rfl⟩, ⟨_, _, rfl, Or.inr ⟨_, _, _, rfl⟩, rfl⟩⟩⟩⟩⟩, rfl⟩) ?_; refine RnM.mt q7 q7 q7 q7 ?_; refine RnM.mt q7 q7 q7 (by simp) ?_; exact RnM.nil)) ?_
  intro i hi
  refine wp_assoc ?_; refine wp_regseq ?_; refine r_mv ?_; refine r_faP ?_
  first | refine r_ldF (v := .sl _ _) ?_ | refine r_ldF (v := .own _ _ _ _) ?_ | refine r_ldF (v := .nils) ?_
  refine r_lenM fun hlR3_3 => ?_; replace hlR3_3 := hlR3_3 rfl rfl
  refine r_lssI ?_; refine reg_end (env' := [_, _, _, _, _, _, _, ⟨_, (.bool _)⟩, _, _, _, _, _, _, _, _, _, _, _, _, _, _]) ?_
  refine wp_condseq (fun hc0 => ?_) (fun hc0 => ?_)
  · try simp only [b0, b1, b2, b3, b4, b5, b6, b7, b8, b9, b10, b11] at hc0
    refine wp_skipseq ?_
    refine wp_blockseq ?_ hm
    refine wp_regseq ?_
    have hx := hp0.2.1 _ (mem_get (show i < l.lines.length by omega))
    have hxf := hx.2.2.2.1
    refine r_faP ?_
    first | refine r_ldF (v := .sl _ _) ?_ | refine r_ldF (v := .own _ _ _ _) ?_ | refine r_ldF (v := .nils) ?_
    refine r_mv ?_; refine r_iaM i ?_; refine r_ldR (v := Lkd.D l.lines[i]!) ?_; refine r_box ?_; refine r_stF (Lkd.D l.lines[i]!) (he := by exact rfl) ?_; refine reg_end (env' := [_, _, _, _, _, _, _, _, ⟨_, _⟩, _, _, _, _, _, _, _, _, _, _, _, _, _]) ?_; refine wp_regseq ?_
    by_cases hik : i = k
    · refine r_faP ?_
      first | refine r_ldF (v := .sl _ _) ?_ | refine r_ldF (v := .own _ _ _ _) ?_ | refine r_ldF (v := .nils) ?_
      refine r_app0 (n := l.lines[i]!.feats.length) (he := Els.sl) (hn := by simp) ?_; refine r_faP ?_; refine r_stF (Lkd.F l.lines[i]!.name l.lines[i]!.v l.lines[i]!.shelf l.lines[i]!.sum (.own 22 1 0 l.lines[i]!.feats.length)) (he := by exact rfl) ?_; refine reg_end (env' := [_, _, _, _, _, _, _, _, _, _, _, _, _, _, _, _, _, _, _, _, _, _]) ?_; refine wp_reg ?_; refine r_faP ?_
      first | refine r_ldF (v := .sl _ _) ?_ | refine r_ldF (v := .own _ _ _ _) ?_ | refine r_ldF (v := .nils) ?_
      refine r_ldB ?_; refine r_bsl [Lkd.F l.lines[i]!.name l.lines[i]!.v l.lines[i]!.shelf l.lines[i]!.sum (.own 22 1 0 l.lines[i]!.feats.length)] ?_; refine r_app ((List.range (i + 1)).map (bq 22 l.lines[k]!.feats.length l.lines k)) (n := (List.range (i + 1)).length) (ha := by simp) (he := Els.all (es := [Lkd.F l.lines[i]!.name l.lines[i]!.v l.lines[i]!.shelf l.lines[i]!.sum (.own 22 1 0 l.lines[i]!.feats.length)]) rfl rfl) (hz := by rw [List.drop_zero, List.take_of_length_le (by simp)]; exact (by rw [hik]; exact bq_eq rfl)) (hn := by simp) (hb := by simp; omega) ?_; refine r_faP ?_; refine r_stF _ (he := by exact rfl) ?_
      refine reg_fin (env' := [_, _, _, _, _, _, _, _, _, _, _, _, _, _, _, _, _, _, _, _, _, _]) ?_; refine BQ.normal ?_; refine wp_reg ?_; refine r_mv ?_; refine r_add64 ?_; refine r_mv ?_; refine reg_fin (env' := [_, _, _, _, _, _, ⟨_, (.int _ _)⟩, _, _, _, _, _, _, _, _, _, _, _, _, _, _, _]) ?_; refine LQ.normal ?_
      exact ⟨i + 1, by omega, by omega, (Ghost.to [(0, 0), (1, 1), (5, 5), (29, 2), (22, 3)] q7 q7 q6 (by (refine RnM.idn q7 q7 rfl ?_); (refine RnM.idn q7 q7 rfl ?_); refine RnM.ide q7 q7 q7 ?_; refine RnM.eq 29 q7 q7 (rn_bq rfl _) ?_; refine RnM.nl 22 q7 q7 (by rw [if_pos (by omega), hik]) (by exact noLocs_map (fun _ => rfl) _) ?_; exact RnM.nil))⟩
    · refine r_faP ?_
      first | refine r_ldF (v := .sl _ _) ?_ | refine r_ldF (v := .own _ _ _ _) ?_ | refine r_ldF (v := .nils) ?_
      refine r_app0 (n := l.lines[i]!.feats.length) (he := Els.sl) (hn := by simp) ?_; refine r_faP ?_; refine r_stF (Lkd.F l.lines[i]!.name l.lines[i]!.v l.lines[i]!.shelf l.lines[i]!.sum (.own 22 1 0 l.lines[i]!.feats.length)) (he := by exact rfl) ?_; refine reg_end (env' := [_, _, _, _, _, _, _, _, _, _, _, _, _, _, _, _, _, _, _, _, _, _]) ?_
      refine wp_fz 22 ?_ (he := by simp only [fzE, fzD, fzL, fzM, fzB, delL, Nat.reduceEqDiff, if_true, if_false, and_self, true_and, and_true, false_and, and_false, Nat.zero_add, List.length_map, Nat.le_refl, List.drop_zero, take_map_len, reduceCtorEq, List.length_cons, List.length_nil, Nat.reduceAdd, Nat.reduceLeDiff, fzD_F, fz_bqo (L := 22) (L' := 3) (by decide), fz_ifs]; exact rfl) (hm := by simp only [fzE, fzD, fzL, fzM, fzB, delL, Nat.reduceEqDiff, if_true, if_false, and_self, true_and, and_true, false_and, and_false, Nat.zero_add, List.length_map, Nat.le_refl, List.drop_zero, take_map_len, reduceCtorEq, List.length_cons, List.length_nil, Nat.reduceAdd, Nat.reduceLeDiff, fzD_F, fz_bqo (L := 22) (L' := 3) (by decide), fz_ifs]; exact rfl)
      refine wp_reg ?_; refine r_faP ?_
      first | refine r_ldF (v := .sl _ _) ?_ | refine r_ldF (v := .own _ _ _ _) ?_ | refine r_ldF (v := .nils) ?_
      refine r_ldB ?_; refine r_bsl [Lkd.D l.lines[i]!] ?_; refine r_app ((List.range (i + 1)).map (bq 3 l.lines[k]!.feats.length l.lines k)) (n := (List.range (i + 1)).length) (ha := by simp) (he := Els.all (es := [Lkd.D l.lines[i]!]) rfl rfl) (hz := by rw [List.drop_zero, List.take_of_length_le (by simp)]; exact bq_ne hik) (hn := by simp) (hb := by simp; omega) ?_; refine r_faP ?_; refine r_stF _ (he := by exact rfl) ?_; refine reg_fin (env' := [_, _, _, _, _, _, _, _, _, _, _, _, _, _, _, _, _, _, _, _, _, _]) ?_; refine BQ.normal ?_; refine wp_reg ?_; refine r_mv ?_; refine r_add64 ?_; refine r_mv ?_
      refine reg_fin (env' := [_, _, _, _, _, _, ⟨_, (.int _ _)⟩, _, _, _, _, _, _, _, _, _, _, _, _, _, _, _]) ?_; refine LQ.normal ?_
      exact ⟨i + 1, by omega, by omega, (Ghost.to [(0, 0), (1, 1), (5, 5), (29, 2), (3, 3)] q7 q7 q6 (by (refine RnM.idn q7 q7 rfl ?_); (refine RnM.idn q7 q7 rfl ?_); refine RnM.ide q7 q7 q7 ?_; refine RnM.eq 29 q7 q7 (rn_bq rfl _) ?_; refine RnM.nl 3 q7 q7 (by simp only [show (k < i + 1) = (k < i) from propext (by omega)]) (by split <;> first | rfl | exact noLocs_map (fun _ => rfl) _) ?_; exact RnM.nil))⟩
  · try simp only [b0, b1, b2, b3, b4, b5, b6, b7, b8, b9, b10, b11] at hc0
    refine wp_exitseq ?_; refine LQ.out ?_; refine wp_assoc ?_; refine wp_regseq ?_
    obtain rfl : i = l.lines.length := by omega
    simp only [List.length_range]
    refine r_faP ?_
    first | refine r_ldF (v := .sl _ _) ?_ | refine r_ldF (v := .own _ _ _ _) ?_ | refine r_ldF (v := .nils) ?_
    refine r_lenO fun hlR8_2 => ?_; replace hlR8_2 := hlR8_2 rfl rfl
    refine r_eqlI ?_; refine reg_end (env' := [_, _, _, _, _, _, _, _, _, _, ⟨_, (.bool _)⟩, _, _, _, _, _, _, _, _, _, _, _]) ?_
    refine wp_condseq (fun hc1 => ?_) (fun hc1 => ?_)
    · try simp only [b0, b1, b2, b3, b4, b5, b6, b7, b8, b9, b10, b11] at hc1
      refine wp_assoc ?_
      have hnil : l.lines = [] := List.eq_nil_of_length_eq_zero (by omega)
      rw [show (List.range l.lines.length).map (bq 3 l.lines[k]!.feats.length l.lines k) = l.lines.map Lkd.D by simp [hnil]]
      refine wp_fz 2 ?_ (he := by simp only [fzE, fzD, fzL, fzM, fzB, delL, Nat.reduceEqDiff, if_true, if_false, and_self, true_and, and_true, false_and, and_false, Nat.zero_add, List.length_map, Nat.le_refl, List.drop_zero, take_map_len, reduceCtorEq, List.length_cons, List.length_nil, Nat.reduceAdd, Nat.reduceLeDiff, take_map_set, List.length_set]; exact rfl) (hm := by simp only [fzE, fzD, fzL, fzM, fzB, delL, Nat.reduceEqDiff, if_true, if_false, and_self, true_and, and_true, false_and, and_false, Nat.zero_add, List.length_map, Nat.le_refl, List.drop_zero, take_map_len, reduceCtorEq, List.length_cons, List.length_nil, Nat.reduceAdd, Nat.reduceLeDiff, take_map_set, List.length_set]; exact rfl)
      refine wp_regseq ?_; refine r_ldB ?_; refine r_stF _ ?_; refine reg_end (env' := [_, _, _, _, _, _, _, _, _, _, _, _, _, _, _, _, _, _, _, _, _, _]) ?_; refine wp_retseq ?_
      refine res_of trivial q2 q3 (Eq.trans q7 (?_))
      rw [show bentM l pa pw pb = l by simp [bentM, hnil]]
      exact rfl
    · simp only [decide_eq_false_iff_not] at hc1
      have hnil : ¬ l.lines = [] := fun h => hc1 (by rw [h]; rfl)
      have hpl := placeI_range pa l.lines.length (by omega)
      have hkp : placeI pa l.lines.length = (k : Int) := by omega
      have hkn : k < l.lines.length := by omega
      have hpw := placeI_range pw 8 (by omega)
      rw [if_pos hkn]
      refine wp_skipseq ?_; refine wp_regseq ?_; refine r_mv ?_; refine r_faP ?_
      first | refine r_ldF (v := .sl _ _) ?_ | refine r_ldF (v := .own _ _ _ _) ?_ | refine r_ldF (v := .nils) ?_
      refine r_lenO fun hlR10_3 => ?_; replace hlR10_3 := hlR10_3 rfl rfl
      refine r_call (hc := h25 pa l.lines.length (by omega)) ?_; refine r_mv ?_; refine reg_end (env' := [_, _, _, _, _, _, _, _, _, _, _, ⟨_, (.int _ _)⟩, _, _, _, _, _, _, _, _, _, _]) ?_; refine wp_regseq ?_; refine r_faP ?_
      first | refine r_ldF (v := .sl _ _) ?_ | refine r_ldF (v := .own _ _ _ _) ?_ | refine r_ldF (v := .nils) ?_
      refine r_mv ?_
      refine r_iaO k (hj := fun _ => hkp) (hb := fun _ => by first | omega | (simp; omega)) ?_; rw [Nat.zero_add]
      refine r_mv ?_; refine reg_end (env' := [_, _, _, _, _, _, _, _, _, _, _, _, _, _, ⟨_, _⟩, _, _, _, _, _, _, _]) ?_; refine wp_assoc ?_; refine wp_regseq ?_; refine r_mv ?_; refine r_call (hc := h25 pw 8 (by omega)) ?_; refine reg_end (env' := [_, _, _, _, _, _, _, _, _, _, _, _, ⟨_, (.int _ _)⟩, _, _, _, _, _, _, _, _, _]) ?_
      refine wp_blockseq ?_ hm
      refine wp_regseq ?_; refine r_eqlI ?_; refine r_mv ?_; refine reg_end (env' := [_, _, _, _, _, _, _, _, _, _, _, _, _, ⟨_, (.bool _)⟩, _, _, _, _, _, _, _, _]) ?_
      refine wp_cond (fun hc2 => ?_) (fun hc2 => ?_)
      · try simp only [b0, b1, b2, b3, b4, b5, b6, b7, b8, b9, b10, b11] at hc2
        refine wp_fz 3 ?_ (hm := by simp only [fzE, fzD, fzL, fzM, fzB, delL, Nat.reduceEqDiff, if_true, if_false, and_self, true_and, and_true, false_and, and_false, Nat.zero_add, List.length_map, Nat.le_refl, List.drop_zero, take_map_len, reduceCtorEq, List.length_cons, List.length_nil, Nat.reduceAdd, Nat.reduceLeDiff, fz_bq hkn]; exact rfl)
        refine wp_reg ?_
        have hpb := placeI_range pb 7 (by omega)
        refine r_mv ?_; refine r_bsl (nm7.map D.str) ?_; refine r_mv ?_; refine r_call (hc := h25 pb 7 (by omega)) ?_
        refine r_iaO (placeI pb 7).toNat (hj := fun _ => by omega) (hb := fun _ => by omega) ?_; rw [Nat.zero_add]
        refine r_ldM (v := .str nm7[(placeI pb 7).toNat]!) (hi := fun _ => by simp [nm7]; omega) ?_
        refine r_nilP ?_; refine r_faP ?_; refine r_stE ((l.lines.set k { l.lines[k]! with name := nm7[(placeI pb 7).toNat]! }).map Lkd.D) (hi := by simp; omega) (he := stE_map hkn rfl) ?_; refine reg_fin (env' := [_, _, _, _, _, _, _, _, _, _, _, _, _, _, _, _, _, _, _, _, _, _]) ?_; refine BQ.normal ?_
        refine wp_fz 2 ?_ (he := by simp only [fzE, fzD, fzL, fzM, fzB, delL, Nat.reduceEqDiff, if_true, if_false, and_self, true_and, and_true, false_and, and_false, Nat.zero_add, List.length_map, Nat.le_refl, List.drop_zero, take_map_len, reduceCtorEq, List.length_cons, List.length_nil, Nat.reduceAdd, Nat.reduceLeDiff, take_map_set, List.length_set]; exact rfl) (hm := by simp only [fzE, fzD, fzL, fzM, fzB, delL, Nat.reduceEqDiff, if_true, if_false, and_self, true_and, and_true, false_and, and_false, Nat.zero_add, List.length_map, Nat.le_refl, List.drop_zero, take_map_len, reduceCtorEq, List.length_cons, List.length_nil, Nat.reduceAdd, Nat.reduceLeDiff, take_map_set, List.length_set]; exact rfl)
        refine wp_regseq ?_; refine r_ldB ?_; refine r_stF _ ?_; refine reg_end (env' := [_, _, _, _, _, _, _, _, _, _, _, _, _, _, _, _, _, _, _, _, _, _]) ?_; refine wp_ret ?_
        refine res_of trivial q2 q3 (Eq.trans q7 (?_))
        rw [show bentM l pa pw pb = ⟨l.env, l.lines.set k { l.lines[k]! with name := nm7[(placeI pb 7).toNat]! }⟩ by simp [bentM, hnil, ← hk, hc2]]
        exact rfl
      · try simp only [b0, b1, b2, b3, b4, b5, b6, b7, b8, b9, b10, b11] at hc2
        refine wp_regseq ?_; refine r_eqlI ?_; refine r_mv ?_; refine reg_end (env' := [_, _, _, _, _, _, _, _, _, _, _, _, _, _, _, ⟨_, (.bool _)⟩, _, _, _, _, _, _]) ?_
        refine wp_cond (fun hc3 => ?_) (fun hc3 => ?_)
        · try simp only [b0, b1, b2, b3, b4, b5, b6, b7, b8, b9, b10, b11] at hc3
          refine wp_fz 3 ?_ (hm := by simp only [fzE, fzD, fzL, fzM, fzB, delL, Nat.reduceEqDiff, if_true, if_false, and_self, true_and, and_true, false_and, and_false, Nat.zero_add, List.length_map, Nat.le_refl, List.drop_zero, take_map_len, reduceCtorEq, List.length_cons, List.length_nil, Nat.reduceAdd, Nat.reduceLeDiff, fz_bq hkn]; exact rfl)
          refine wp_reg ?_
          have hpb := placeI_range pb 4 (by omega)
          refine r_mv ?_; refine r_call (hc := h112 ) ?_; refine r_mv ?_; refine r_call (hc := h25 pb 4 (by omega)) ?_
          refine r_iaM (placeI pb 4).toNat (hj := fun _ => by omega) (hb := fun _ => by simp [versM]; omega) ?_
          refine r_ldR (v := Ver.D versM[(placeI pb 4).toNat]!) (hi := fun _ => by simp [versM]; omega) ?_
          refine r_nilP ?_; refine r_faP ?_; refine r_stE ((l.lines.set k { l.lines[k]! with v := versM[(placeI pb 4).toNat]! }).map Lkd.D) (hi := by simp; omega) (he := stE_map hkn rfl) ?_; refine reg_fin (env' := [_, _, _, _, _, _, _, _, _, _, _, _, _, _, _, _, _, _, _, _, _, _]) ?_; refine BQ.normal ?_
          refine wp_fz 2 ?_ (he := by simp only [fzE, fzD, fzL, fzM, fzB, delL, Nat.reduceEqDiff, if_true, if_false, and_self, true_and, and_true, false_and, and_false, Nat.zero_add, List.length_map, Nat.le_refl, List.drop_zero, take_map_len, reduceCtorEq, List.length_cons, List.length_nil, Nat.reduceAdd, Nat.reduceLeDiff, take_map_set, List.length_set]; exact rfl) (hm := by simp only [fzE, fzD, fzL, fzM, fzB, delL, Nat.reduceEqDiff, if_true, if_false, and_self, true_and, and_true, false_and, and_false, Nat.zero_add, List.length_map, Nat.le_refl, List.drop_zero, take_map_len, reduceCtorEq, List.length_cons, List.length_nil, Nat.reduceAdd, Nat.reduceLeDiff, take_map_set, List.length_set]; exact rfl)
          refine wp_regseq ?_; refine r_ldB ?_; refine r_stF _ ?_; refine reg_end (env' := [_, _, _, _, _, _, _, _, _, _, _, _, _, _, _, _, _, _, _, _, _, _]) ?_; refine wp_ret ?_
          refine res_of trivial q2 q3 (Eq.trans q7 (?_))
          rw [show bentM l pa pw pb = ⟨l.env, l.lines.set k { l.lines[k]! with v := versM[(placeI pb 4).toNat]! }⟩ by simp [bentM, hnil, ← hk, hc2, hc3]]
          exact rfl
        · try simp only [b0, b1, b2, b3, b4, b5, b6, b7, b8, b9, b10, b11] at hc3
          refine wp_regseq ?_; refine r_eqlI ?_; refine r_mv ?_; refine reg_end (env' := [_, _, _, _, _, _, _, _, _, _, _, _, _, _, _, _, ⟨_, (.bool _)⟩, _, _, _, _, _]) ?_
          refine wp_cond (fun hc4 => ?_) (fun hc4 => ?_)
          · try simp only [b0, b1, b2, b3, b4, b5, b6, b7, b8, b9, b10, b11] at hc4
            refine wp_fz 3 ?_ (hm := by simp only [fzE, fzD, fzL, fzM, fzB, delL, Nat.reduceEqDiff, if_true, if_false, and_self, true_and, and_true, false_and, and_false, Nat.zero_add, List.length_map, Nat.le_refl, List.drop_zero, take_map_len, reduceCtorEq, List.length_cons, List.length_nil, Nat.reduceAdd, Nat.reduceLeDiff, fz_bq hkn]; exact rfl)
            refine wp_reg ?_
            have hpb := placeI_range pb 5 (by omega)
            refine r_mv ?_; refine r_bsl (sh5.map D.str) ?_; refine r_mv ?_; refine r_call (hc := h25 pb 5 (by omega)) ?_
            refine r_iaO (placeI pb 5).toNat (hj := fun _ => by omega) (hb := fun _ => by omega) ?_; rw [Nat.zero_add]
            refine r_ldM (v := .str sh5[(placeI pb 5).toNat]!) (hi := fun _ => by simp [sh5]; omega) ?_
            refine r_nilP ?_; refine r_faP ?_; refine r_stE ((l.lines.set k { l.lines[k]! with shelf := sh5[(placeI pb 5).toNat]! }).map Lkd.D) (hi := by simp; omega) (he := stE_map hkn rfl) ?_; refine reg_fin (env' := [_, _, _, _, _, _, _, _, _, _, _, _, _, _, _, _, _, _, _, _, _, _]) ?_; refine BQ.normal ?_
            refine wp_fz 2 ?_ (he := by simp only [fzE, fzD, fzL, fzM, fzB, delL, Nat.reduceEqDiff, if_true, if_false, and_self, true_and, and_true, false_and, and_false, Nat.zero_add, List.length_map, Nat.le_refl, List.drop_zero, take_map_len, reduceCtorEq, List.length_cons, List.length_nil, Nat.reduceAdd, Nat.reduceLeDiff, take_map_set, List.length_set]; exact rfl) (hm := by simp only [fzE, fzD, fzL, fzM, fzB, delL, Nat.reduceEqDiff, if_true, if_false, and_self, true_and, and_true, false_and, and_false, Nat.zero_add, List.length_map, Nat.le_refl, List.drop_zero, take_map_len, reduceCtorEq, List.length_cons, List.length_nil, Nat.reduceAdd, Nat.reduceLeDiff, take_map_set, List.length_set]; exact rfl)
            refine wp_regseq ?_; refine r_ldB ?_; refine r_stF _ ?_; refine reg_end (env' := [_, _, _, _, _, _, _, _, _, _, _, _, _, _, _, _, _, _, _, _, _, _]) ?_; refine wp_ret ?_
            refine res_of trivial q2 q3 (Eq.trans q7 (?_))
            rw [show bentM l pa pw pb = ⟨l.env, l.lines.set k { l.lines[k]! with shelf := sh5[(placeI pb 5).toNat]! }⟩ by simp [bentM, hnil, ← hk, hc2, hc3, hc4]]
            exact rfl
          · try simp only [b0, b1, b2, b3, b4, b5, b6, b7, b8, b9, b10, b11] at hc4
            refine wp_regseq ?_; refine r_eqlI ?_; refine r_mv ?_; refine reg_end (env' := [_, _, _, _, _, _, _, _, _, _, _, _, _, _, _, _, _, ⟨_, (.bool _)⟩, _, _, _, _]) ?_
            refine wp_cond (fun hc5 => ?_) (fun hc5 => ?_)
            · try simp only [b0, b1, b2, b3, b4, b5, b6, b7, b8, b9, b10, b11] at hc5
              refine wp_fz 3 ?_ (hm := by simp only [fzE, fzD, fzL, fzM, fzB, delL, Nat.reduceEqDiff, if_true, if_false, and_self, true_and, and_true, false_and, and_false, Nat.zero_add, List.length_map, Nat.le_refl, List.drop_zero, take_map_len, reduceCtorEq, List.length_cons, List.length_nil, Nat.reduceAdd, Nat.reduceLeDiff, fz_bq hkn]; exact rfl)
              refine wp_reg ?_
              have hpb := placeI_range pb 3 (by omega)
              refine r_mv ?_; refine r_mv ?_; refine r_nilP ?_; refine r_faP ?_; refine r_ldM (v := .int .u64 l.lines[k]!.sum) ?_; refine r_mv ?_; refine r_call (hc := h25 pb 3 (by omega)) ?_
              refine r_cvi (placeI pb 3) (hb := fun _ => by rw [IntKind.wrap_u64]; omega) ?_
              refine r_addK _ (hb := fun _ => rfl) ?_
              refine r_nilP ?_; refine r_faP ?_; refine r_stE ((l.lines.set k { l.lines[k]! with sum := IntKind.u64.wrap (l.lines[k]!.sum + placeI pb 3) }).map Lkd.D) (hi := by simp; omega) (he := stE_map hkn rfl) ?_; refine reg_fin (env' := [_, _, _, _, _, _, _, _, _, _, _, _, _, _, _, _, _, _, _, _, _, _]) ?_; refine BQ.normal ?_
              refine wp_fz 2 ?_ (he := by simp only [fzE, fzD, fzL, fzM, fzB, delL, Nat.reduceEqDiff, if_true, if_false, and_self, true_and, and_true, false_and, and_false, Nat.zero_add, List.length_map, Nat.le_refl, List.drop_zero, take_map_len, reduceCtorEq, List.length_cons, List.length_nil, Nat.reduceAdd, Nat.reduceLeDiff, take_map_set, List.length_set]; exact rfl) (hm := by simp only [fzE, fzD, fzL, fzM, fzB, delL, Nat.reduceEqDiff, if_true, if_false, and_self, true_and, and_true, false_and, and_false, Nat.zero_add, List.length_map, Nat.le_refl, List.drop_zero, take_map_len, reduceCtorEq, List.length_cons, List.length_nil, Nat.reduceAdd, Nat.reduceLeDiff, take_map_set, List.length_set]; exact rfl)
              refine wp_regseq ?_; refine r_ldB ?_; refine r_stF _ ?_; refine reg_end (env' := [_, _, _, _, _, _, _, _, _, _, _, _, _, _, _, _, _, _, _, _, _, _]) ?_; refine wp_ret ?_
              refine res_of trivial q2 q3 (Eq.trans q7 (?_))
              rw [show bentM l pa pw pb = ⟨l.env, l.lines.set k { l.lines[k]! with sum := IntKind.u64.wrap (l.lines[k]!.sum + placeI pb 3) }⟩ by simp [bentM, hnil, ← hk, hc2, hc3, hc4, hc5]]
              exact rfl
            · try simp only [b0, b1, b2, b3, b4, b5, b6, b7, b8, b9, b10, b11] at hc5
              refine wp_regseq ?_; refine r_eqlI ?_; refine r_mv ?_; refine reg_end (env' := [_, _, _, _, _, _, _, _, _, _, _, _, _, _, _, _, _, _, ⟨_, (.bool _)⟩, _, _, _]) ?_
              refine wp_cond (fun hc6 => ?_) (fun hc6 => ?_)
              · try simp only [b0, b1, b2, b3, b4, b5, b6, b7, b8, b9, b10, b11] at hc6
                refine wp_reg ?_
                have hpb := placeI_range pb 3 (by omega)
                refine r_mv ?_; refine r_mv ?_; refine r_nilP ?_; refine r_faP ?_
                refine r_ldM (v := .own 3 1 0 l.lines[k]!.feats.length) (hi := fun _ => by simp; omega) (hv := fun _ => bq_get hkn) ?_
                refine r_bsl (ft3.map D.str) ?_; refine r_mv ?_; refine r_call (hc := h25 pb 3 (by omega)) ?_
                refine r_iaO (placeI pb 3).toNat (hj := fun _ => by omega) (hb := fun _ => by omega) ?_; rw [Nat.zero_add]
                refine r_ldM (v := .str ft3[(placeI pb 3).toNat]!) (hi := fun _ => by simp [ft3]; omega) ?_
                refine r_bsl [(.str _)] ?_; refine r_app1 (xs := l.lines[k]!.feats) (hb := by have := (hp0.2.1 _ (mem_get hkn)).2.2.2.1; omega) ?_; refine r_nilP ?_; refine r_faP ?_; refine r_stE ((List.range l.lines.length).map (bq 51 (l.lines[k]!.feats ++ [ft3[(placeI pb 3).toNat]!]).length l.lines k)) (hi := by simp; omega) (he := bq_st hkn) ?_; refine reg_fin (env' := [_, _, _, _, _, _, _, _, _, _, _, _, _, _, _, _, _, _, _, _, _, _]) ?_; refine BQ.normal ?_
                refine wp_fz 51 ?_ (hm := by simp only [fzE, fzD, fzL, fzM, fzB, delL, Nat.reduceEqDiff, if_true, if_false, and_self, true_and, and_true, false_and, and_false, Nat.zero_add, List.length_map, Nat.le_refl, List.drop_zero, take_map_len, reduceCtorEq, List.length_cons, List.length_nil, Nat.reduceAdd, Nat.reduceLeDiff, fz_bq' hkn]; exact rfl)
                refine wp_fz 2 ?_ (he := by simp only [fzE, fzD, fzL, fzM, fzB, delL, Nat.reduceEqDiff, if_true, if_false, and_self, true_and, and_true, false_and, and_false, Nat.zero_add, List.length_map, Nat.le_refl, List.drop_zero, take_map_len, reduceCtorEq, List.length_cons, List.length_nil, Nat.reduceAdd, Nat.reduceLeDiff, take_map_set, List.length_set]; exact rfl) (hm := by simp only [fzE, fzD, fzL, fzM, fzB, delL, Nat.reduceEqDiff, if_true, if_false, and_self, true_and, and_true, false_and, and_false, Nat.zero_add, List.length_map, Nat.le_refl, List.drop_zero, take_map_len, reduceCtorEq, List.length_cons, List.length_nil, Nat.reduceAdd, Nat.reduceLeDiff, take_map_set, List.length_set]; exact rfl)
                refine wp_regseq ?_; refine r_ldB ?_; refine r_stF _ ?_; refine reg_end (env' := [_, _, _, _, _, _, _, _, _, _, _, _, _, _, _, _, _, _, _, _, _, _]) ?_; refine wp_ret ?_
                refine res_of trivial q2 q3 (Eq.trans q7 (?_))
                rw [show bentM l pa pw pb = ⟨l.env, l.lines.set k { l.lines[k]! with feats := l.lines[k]!.feats ++ [ft3[(placeI pb 3).toNat]!] }⟩ by simp [bentM, hnil, ← hk, hc2, hc3, hc4, hc5, hc6]]
                exact rfl
              · try simp only [b0, b1, b2, b3, b4, b5, b6, b7, b8, b9, b10, b11] at hc6
                refine wp_regseq ?_; refine r_eqlI ?_; refine r_mv ?_; refine reg_end (env' := [_, _, _, _, _, _, _, _, _, _, _, _, _, _, _, _, _, _, _, ⟨_, (.bool _)⟩, _, _]) ?_
                refine wp_cond (fun hc7 => ?_) (fun hc7 => ?_)
                · try simp only [b0, b1, b2, b3, b4, b5, b6, b7, b8, b9, b10, b11] at hc7
                  refine wp_fz 3 ?_ (hm := by simp only [fzE, fzD, fzL, fzM, fzB, delL, Nat.reduceEqDiff, if_true, if_false, and_self, true_and, and_true, false_and, and_false, Nat.zero_add, List.length_map, Nat.le_refl, List.drop_zero, take_map_len, reduceCtorEq, List.length_cons, List.length_nil, Nat.reduceAdd, Nat.reduceLeDiff, fz_bq hkn]; exact rfl)
                  refine wp_reg ?_
                  have hpb := placeI_range pb 3 (by omega)
                  refine r_mv ?_; refine r_bsl (bu3.map D.str) ?_; refine r_mv ?_; refine r_call (hc := h25 pb 3 (by omega)) ?_
                  refine r_iaO (placeI pb 3).toNat (hj := fun _ => by omega) (hb := fun _ => by omega) ?_; rw [Nat.zero_add]
                  refine r_ldM (v := .str bu3[(placeI pb 3).toNat]!) (hi := fun _ => by simp [bu3]; omega) ?_
                  refine r_nilP ?_; refine r_faP ?_; refine r_faP ?_; refine r_stE ((l.lines.set k { l.lines[k]! with v := { l.lines[k]!.v with build := bu3[(placeI pb 3).toNat]! } }).map Lkd.D) (hi := by simp; omega) (he := stE_map hkn rfl) ?_; refine reg_fin (env' := [_, _, _, _, _, _, _, _, _, _, _, _, _, _, _, _, _, _, _, _, _, _]) ?_; refine BQ.normal ?_
                  refine wp_fz 2 ?_ (he := by simp only [fzE, fzD, fzL, fzM, fzB, delL, Nat.reduceEqDiff, if_true, if_false, and_self, true_and, and_true, false_and, and_false, Nat.zero_add, List.length_map, Nat.le_refl, List.drop_zero, take_map_len, reduceCtorEq, List.length_cons, List.length_nil, Nat.reduceAdd, Nat.reduceLeDiff, take_map_set, List.length_set]; exact rfl) (hm := by simp only [fzE, fzD, fzL, fzM, fzB, delL, Nat.reduceEqDiff, if_true, if_false, and_self, true_and, and_true, false_and, and_false, Nat.zero_add, List.length_map, Nat.le_refl, List.drop_zero, take_map_len, reduceCtorEq, List.length_cons, List.length_nil, Nat.reduceAdd, Nat.reduceLeDiff, take_map_set, List.length_set]; exact rfl)
                  refine wp_regseq ?_; refine r_ldB ?_; refine r_stF _ ?_; refine reg_end (env' := [_, _, _, _, _, _, _, _, _, _, _, _, _, _, _, _, _, _, _, _, _, _]) ?_; refine wp_ret ?_
                  refine res_of trivial q2 q3 (Eq.trans q7 (?_))
                  rw [show bentM l pa pw pb = ⟨l.env, l.lines.set k { l.lines[k]! with v := { l.lines[k]!.v with build := bu3[(placeI pb 3).toNat]! } }⟩ by simp [bentM, hnil, ← hk, hc2, hc3, hc4, hc5, hc6, hc7]]
                  exact rfl
                · try simp only [b0, b1, b2, b3, b4, b5, b6, b7, b8, b9, b10, b11] at hc7
                  refine wp_regseq ?_; refine r_eqlI ?_; refine r_mv ?_; refine reg_end (env' := [_, _, _, _, _, _, _, _, _, _, _, _, _, _, _, _, _, _, _, _, ⟨_, (.bool _)⟩, _]) ?_
                  refine wp_cond (fun hc8 => ?_) (fun hc8 => ?_)
                  · try simp only [b0, b1, b2, b3, b4, b5, b6, b7, b8, b9, b10, b11] at hc8
                    refine wp_fz 3 ?_ (hm := by simp only [fzE, fzD, fzL, fzM, fzB, delL, Nat.reduceEqDiff, if_true, if_false, and_self, true_and, and_true, false_and, and_false, Nat.zero_add, List.length_map, Nat.le_refl, List.drop_zero, take_map_len, reduceCtorEq, List.length_cons, List.length_nil, Nat.reduceAdd, Nat.reduceLeDiff, fz_bq hkn]; exact rfl)
                    refine wp_reg ?_; refine r_faP ?_
                    first | refine r_ldF (v := .sl _ _) ?_ | refine r_ldF (v := .own _ _ _ _) ?_ | refine r_ldF (v := .nils) ?_
                    refine r_mv ?_
                    refine r_slO_hi k (hj := fun _ => hkp) (hb := fun _ => by omega) ?_
                    refine r_appN0 (he := Els.own rfl (by simp; omega)) (hn := by simp; omega) (n := k) ?_; rw [List.drop_zero, ← List.map_take]
                    refine r_faP ?_
                    first | refine r_ldF (v := .sl _ _) ?_ | refine r_ldF (v := .own _ _ _ _) ?_ | refine r_ldF (v := .nils) ?_
                    refine r_mv ?_; refine r_add64 ?_
                    refine r_slO_lo (k + 1) (hi := fun _ => by omega) (hb := fun _ => by omega) ?_
                    refine r_app ((l.lines.take k ++ l.lines.drop (k + 1)).map Lkd.D) (n := (l.lines.take k ++ l.lines.drop (k + 1)).length) (ha := by simp; omega) (he := Els.own rfl (by simp; omega)) (hz := cut_k _ _ _ _ (by simp; omega)) (hn := by simp; omega) (hb := by simp; omega) ?_; refine r_faP ?_; refine r_stF (.agg [.str l.env.e0, .str l.env.e1, .str l.env.e2, .own 54 9 0 (l.lines.take k ++ l.lines.drop (k + 1)).length]) (he := by exact rfl) ?_; refine reg_fin (env' := [_, _, _, _, _, _, _, _, _, _, _, _, _, _, _, _, _, _, _, _, _, _]) ?_; refine BQ.normal ?_
                    refine wp_fz 54 ?_ (he := by simp only [fzE, fzD, fzL, fzM, fzB, delL, Nat.reduceEqDiff, if_true, if_false, and_self, true_and, and_true, false_and, and_false, Nat.zero_add, List.length_map, Nat.le_refl, List.drop_zero, take_map_len, reduceCtorEq, List.length_cons, List.length_nil, Nat.reduceAdd, Nat.reduceLeDiff, take_map_set, List.length_set]; exact rfl) (hm := by simp only [fzE, fzD, fzL, fzM, fzB, delL, Nat.reduceEqDiff, if_true, if_false, and_self, true_and, and_true, false_and, and_false, Nat.zero_add, List.length_map, Nat.le_refl, List.drop_zero, take_map_len, reduceCtorEq, List.length_cons, List.length_nil, Nat.reduceAdd, Nat.reduceLeDiff, take_map_set, List.length_set]; exact rfl)
                    refine wp_regseq ?_; refine r_ldB ?_; refine r_stF _ ?_; refine reg_end (env' := [_, _, _, _, _, _, _, _, _, _, _, _, _, _, _, _, _, _, _, _, _, _]) ?_; refine wp_ret ?_
                    refine res_of trivial q2 q3 (Eq.trans q7 (?_))
                    rw [show bentM l pa pw pb = ⟨l.env, l.lines.take k ++ l.lines.drop (k + 1)⟩ by simp [bentM, hnil, ← hk, hc2, hc3, hc4, hc5, hc6, hc7, hc8]]
                    exact rfl
                  · try simp only [b0, b1, b2, b3, b4, b5, b6, b7, b8, b9, b10, b11] at hc8
                    refine wp_regseq ?_; refine r_eqlI ?_; refine r_mv ?_; refine reg_end (env' := [_, _, _, _, _, _, _, _, _, _, _, _, _, _, _, _, _, _, _, _, _, ⟨_, (.bool _)⟩]) ?_
                    refine wp_cond (fun hc9 => ?_) (fun hc9 => ?_)
                    · try simp only [b0, b1, b2, b3, b4, b5, b6, b7, b8, b9, b10, b11] at hc9
                      refine wp_fz 3 ?_ (hm := by simp only [fzE, fzD, fzL, fzM, fzB, delL, Nat.reduceEqDiff, if_true, if_false, and_self, true_and, and_true, false_and, and_false, Nat.zero_add, List.length_map, Nat.le_refl, List.drop_zero, take_map_len, reduceCtorEq, List.length_cons, List.length_nil, Nat.reduceAdd, Nat.reduceLeDiff, fz_bq hkn]; exact rfl)
                      refine wp_reg ?_; refine r_mv ?_; refine r_call (hc := h29 pb) ?_; refine r_faP ?_; refine r_stF (.agg [.str (envM pb).e0, .str (envM pb).e1, .str (envM pb).e2, .own 2 9 0 l.lines.length]) (he := by exact rfl) ?_; refine reg_fin (env' := [_, _, _, _, _, _, _, _, _, _, _, _, _, _, _, _, _, _, _, _, _, _]) ?_; refine BQ.normal ?_
                      refine wp_fz 2 ?_ (he := by simp only [fzE, fzD, fzL, fzM, fzB, delL, Nat.reduceEqDiff, if_true, if_false, and_self, true_and, and_true, false_and, and_false, Nat.zero_add, List.length_map, Nat.le_refl, List.drop_zero, take_map_len, reduceCtorEq, List.length_cons, List.length_nil, Nat.reduceAdd, Nat.reduceLeDiff, take_map_set, List.length_set]; exact rfl) (hm := by simp only [fzE, fzD, fzL, fzM, fzB, delL, Nat.reduceEqDiff, if_true, if_false, and_self, true_and, and_true, false_and, and_false, Nat.zero_add, List.length_map, Nat.le_refl, List.drop_zero, take_map_len, reduceCtorEq, List.length_cons, List.length_nil, Nat.reduceAdd, Nat.reduceLeDiff, take_map_set, List.length_set]; exact rfl)
                      refine wp_regseq ?_; refine r_ldB ?_; refine r_stF _ ?_; refine reg_end (env' := [_, _, _, _, _, _, _, _, _, _, _, _, _, _, _, _, _, _, _, _, _, _]) ?_; refine wp_ret ?_
                      refine res_of trivial q2 q3 (Eq.trans q7 (?_))
                      rw [show bentM l pa pw pb = ⟨envM pb, l.lines⟩ by simp [bentM, hnil, ← hk, hc2, hc3, hc4, hc5, hc6, hc7, hc8, hc9]]
                      exact rfl
                    · try simp only [b0, b1, b2, b3, b4, b5, b6, b7, b8, b9, b10, b11] at hc9
                      exfalso; omega
def C93 (Γ : Ctx) : Prop := ∀ (l : Lck) (pa : Int) (pw : Int) (pb : Int), (l.sm) → Γ.pre 93 [Lck.D l, .int .i64 pa, .int .i64 pw, .int .i64 pb] ∧ Γ.val 93 [Lck.D l, .int .i64 pa, .int .i64 pw, .int .i64 pb] = Lck.D (bentM l pa pw pb)
end Go.Abs
end
section
namespace Go.Abs
open Go
/-- linchpin/linchpinlaw33.few -/
def law33_few : AFunc := { np := 1, ns := 7, res := [⟨1, none⟩], rsh := [[.a]], body := (.seq (.reg false [⟨.box 4 (.s 0), none⟩, ⟨.mv (.c (.bool false)), none⟩] [(2, 0), (1, 1)]) (.seq (.seq (.reg false [⟨.fa 3 (.s 2), none⟩, ⟨.ld 1 false (.l 0), none⟩, ⟨.len (.l 1), none⟩, ⟨.bin .gtr (.l 2) (.c (.int .i64 60)), none⟩] [(3, 3)]) (.cond (.s 3) (.seq (.reg false [⟨.mv (.c (.bool false)), none⟩] [(1, 0)]) .ret) .skip)) (.seq (.seq (.reg false [⟨.mv (.c (.int .i64 0)), none⟩] [(4, 0)]) (.block 0 (.loop (.seq (.seq (.reg false [⟨.mv (.s 4), none⟩, ⟨.fa 3 (.s 2), none⟩, ⟨.ld 1 false (.l 1), none⟩, ⟨.len (.l 2), none⟩, ⟨.bin .lss (.l 0) (.l 3), none⟩] [(5, 4)]) (.cond (.s 5) .skip (.exit 0))) (.seq (.block 1 (.seq (.reg false [⟨.fa 3 (.s 2), none⟩, ⟨.ld 1 false (.l 0), none⟩, ⟨.mv (.s 4), none⟩, ⟨.ia 9 (.l 1) (.l 2), none⟩, ⟨.fa 8 (.l 3), none⟩, ⟨.ld 1 false (.l 4), none⟩, ⟨.len (.l 5), none⟩, ⟨.bin .gtr (.l 6) (.c (.int .i64 30)), none⟩, ⟨.mv (.l 7), none⟩, ⟨.fa 3 (.s 2), some (8, false)⟩, ⟨.ld 1 false (.l 9), some (8, false)⟩, ⟨.mv (.s 4), some (8, false)⟩, ⟨.ia 9 (.l 10) (.l 11), some (8, false)⟩, ⟨.fa 0 (.l 12), some (8, false)⟩, ⟨.ld 1 false (.l 13), some (8, false)⟩, ⟨.lenS (.l 14), some (8, false)⟩, ⟨.bin .gtr (.l 15) (.c (.int .i64 100)), some (8, false)⟩, ⟨.pick (.l 8) (.c (.bool true)) (.l 16), none⟩, ⟨.mv (.l 17), none⟩, ⟨.fa 3 (.s 2), some (18, false)⟩, ⟨.ld 1 false (.l 19), some (18, false)⟩, ⟨.mv (.s 4), some (18, false)⟩, ⟨.ia 9 (.l 20) (.l 21), some (18, false)⟩, ⟨.fa 6 (.l 22), some (18, false)⟩, ⟨.ld 1 false (.l 23), some (18, false)⟩, ⟨.lenS (.l 24), some (18, false)⟩, ⟨.bin .gtr (.l 25) (.c (.int .i64 100)), some (18, false)⟩, ⟨.pick (.l 18) (.c (.bool true)) (.l 26), none⟩] [(6, 27)]) (.cond (.s 6) (.seq (.reg false [⟨.mv (.c (.bool false)), none⟩] [(1, 0)]) .ret) .skip))) (.reg false [⟨.mv (.s 4), none⟩, ⟨.bin .add (.l 0) (.c (.int .i64 1)), none⟩, ⟨.mv (.l 1), none⟩] [(4, 2)])))))) (.seq (.reg false [⟨.mv (.c (.bool true)), none⟩] [(1, 0)]) .ret)))) }
theorem w1184 {Γ : Ctx} (hm : (Γ.at 0).Mono)  (l : Lck)  : wpA (Γ.at 0) law33_few.body (Res law33_few (.bool (fewB l)) : Ex → List Ent → St → Prop) (env0 law33_few [Lck.D l]) ⟨0, []⟩ := by
  show wpA _ _ _ [⟨true, Lck.D l⟩, .un, .un, .un, .un, .un, .un] ⟨0, []⟩
  refine wp_regseq ?_; refine r_box ?_; refine r_mv ?_; refine reg_end (env' := [_, ⟨_, (.bool _)⟩, ⟨_, _⟩, _, _, _, _]) ?_; refine wp_assoc ?_; refine wp_regseq ?_; refine r_faP ?_
  first | refine r_ldF (v := .sl _ _) ?_ | refine r_ldF (v := .own _ _ _ _) ?_ | refine r_ldF (v := .nils) ?_
  refine r_lenM fun hlR1_2 => ?_; replace hlR1_2 := hlR1_2 rfl rfl
  refine r_gtrI ?_; refine reg_end (env' := [_, _, _, ⟨_, (.bool _)⟩, _, _, _]) ?_
  refine wp_condseq (fun hc0 => ?_) (fun hc0 => ?_)
  · try simp only [b0, b1, b2, b3, b4, b5, b6, b7, b8, b9, b10, b11] at hc0
    refine wp_assoc ?_; refine wp_regseq ?_; refine r_mv ?_; refine reg_end (env' := [_, ⟨_, (.bool _)⟩, _, _, _, _, _]) ?_; refine wp_retseq ?_
    refine res_of trivial q2 q3 (Eq.trans q7 (congrArg D.bool ?_))
    simp only [fewB]; rw [decide_eq_false (by omega : ¬ l.lines.length ≤ 60)]; rfl
  · try simp only [b0, b1, b2, b3, b4, b5, b6, b7, b8, b9, b10, b11] at hc0
    refine wp_skipseq ?_; refine wp_assoc ?_; refine wp_regseq ?_; refine r_mv ?_; refine reg_end (env' := [_, _, _, _, ⟨_, (.int _ _)⟩, _, _]) ?_
    have h60 : fewB l = allF (fun i => few1 l.lines[i]!) 0 l.lines.length := by simp only [fewB]; rw [decide_eq_true (by omega : l.lines.length ≤ 60)]; rfl
    refine wp_for hm (ι := Nat) (fun i => [.un, .un, ⟨true, .ptr 0 4 0 0⟩, .un, ⟨true, .int .i64 (i : Nat)⟩, .un, .un]) (fun i => [(0, .buf 4 [Lck.D l])]) 7 (fun i => i ≤ l.lines.length ∧ fewB l = allF (fun i => few1 l.lines[i]!) i l.lines.length) (fun i => l.lines.length - i) 0 ⟨by omega, h60⟩ (Ghost.to [(0, 0)] q7 q7 q4 q1) ?_
    rintro i ⟨hi, hr⟩
    refine wp_assoc ?_; refine wp_regseq ?_; refine r_mv ?_; refine r_faP ?_
    first | refine r_ldF (v := .sl _ _) ?_ | refine r_ldF (v := .own _ _ _ _) ?_ | refine r_ldF (v := .nils) ?_
    refine r_lenM fun hlR4_3 => ?_; replace hlR4_3 := hlR4_3 rfl rfl
    refine r_lssI ?_; refine reg_end (env' := [_, _, _, _, _, ⟨_, (.bool _)⟩, _]) ?_
    refine wp_condseq (fun hc1 => ?_) (fun hc1 => ?_)
    · try simp only [b0, b1, b2, b3, b4, b5, b6, b7, b8, b9, b10, b11] at hc1
      refine wp_skipseq ?_
      refine wp_blockseq ?_ hm
      refine wp_regseq ?_; refine r_faP ?_
      first | refine r_ldF (v := .sl _ _) ?_ | refine r_ldF (v := .own _ _ _ _) ?_ | refine r_ldF (v := .nils) ?_
      refine r_mv ?_
      first | refine r_iaM _ ?_ | refine r_iaMT ?_
      refine r_faR ?_
      first | refine r_ldR (v := (.sl _ _)) ?_ | refine r_ldQ (v := (.sl _ _)) ?_
      refine r_lenM fun hlR5_6 => ?_; replace hlR5_6 := hlR5_6 rfl rfl
      refine r_gtrI ?_; refine r_mv ?_; refine r_faP ?_
      first | refine r_ldF (v := .sl _ _) ?_ | refine r_ldF (v := .own _ _ _ _) ?_ | refine r_ldF (v := .nils) ?_
      refine r_mv ?_
      first | refine r_iaM _ ?_ | refine r_iaMT ?_
      refine r_faR ?_
      first | refine r_ldR (v := (.str _)) ?_ | refine r_ldQ (v := (.str _)) ?_
      refine r_lenS fun _ => ?_
      refine r_gtrI ?_; refine r_or ?_; refine r_mv ?_; refine r_faP ?_
      first | refine r_ldF (v := .sl _ _) ?_ | refine r_ldF (v := .own _ _ _ _) ?_ | refine r_ldF (v := .nils) ?_
      refine r_mv ?_
      first | refine r_iaM _ ?_ | refine r_iaMT ?_
      refine r_faR ?_
      first | refine r_ldR (v := (.str _)) ?_ | refine r_ldQ (v := (.str _)) ?_
      refine r_lenS fun _ => ?_
      refine r_gtrI ?_; refine r_or ?_; refine reg_end (env' := [_, _, _, _, _, _, ⟨_, (.bool _)⟩]) ?_
      refine wp_cond (fun hc2 => ?_) (fun hc2 => ?_)
      · skip
        refine wp_regseq ?_; refine r_mv ?_; refine reg_end (env' := [_, ⟨_, (.bool _)⟩, _, _, _, _, _]) ?_; refine wp_ret ?_; refine BQ.ret ?_; refine LQ.ret ?_
        refine res_of trivial q2 q3 (Eq.trans q7 (congrArg D.bool ?_))
        have hf1 : few1 l.lines[i]! = false := by
          simp only [Bool.or_eq_true, decide_eq_true_eq] at hc2
          simp only [few1, Bool.not_eq_false', Bool.or_eq_true, decide_eq_true_eq]; omega
        rw [hr, allF_lt (by omega), hf1]; rfl
      · have hf1 : few1 l.lines[i]! = true := by simp only [Bool.or_eq_false_iff, decide_eq_false_iff_not] at hc2; simp only [few1, Bool.not_eq_true', Bool.or_eq_false_iff, decide_eq_false_iff_not]; omega
        refine wp_skip ?_; refine BQ.normal ?_; refine wp_reg ?_; refine r_mv ?_; refine r_add64 ?_; refine r_mv ?_; refine reg_fin (env' := [_, _, _, _, ⟨_, (.int _ _)⟩, _, _]) ?_; refine LQ.normal ?_
        exact ⟨i + 1, ⟨by omega, by rw [hr, allF_lt (by omega), hf1]; rfl⟩, by omega, (Ghost.to [(0, 0)] q7 q7 q4 q1)⟩
    · try simp only [b0, b1, b2, b3, b4, b5, b6, b7, b8, b9, b10, b11] at hc1
      refine wp_exitseq ?_; refine LQ.out ?_; refine wp_regseq ?_; refine r_mv ?_; refine reg_end (env' := [_, ⟨_, (.bool _)⟩, _, _, _, _, _]) ?_; refine wp_ret ?_
      refine res_of trivial q2 q3 (Eq.trans q7 (congrArg D.bool ?_))
      rw [hr, allF_ge (by omega)]
def C1184 (Γ : Ctx) : Prop := ∀ (l : Lck), Γ.pre 1184 [Lck.D l] ∧ Γ.val 1184 [Lck.D l] = .bool (fewB l)
/-- linchpin/linchpinlaw33.keeps -/
def law33_keeps : AFunc := { np := 2, ns := 7, res := [⟨2, none⟩], rsh := [[.a]], body := (.seq (.reg false [⟨.mv (.c (.bool false)), none⟩] [(2, 0)]) (.seq (.seq (.reg false [⟨.mv (.s 0), none⟩, ⟨.len (.l 0), none⟩, ⟨.mv (.s 1), none⟩, ⟨.len (.l 2), none⟩, ⟨.bin .neq (.l 1) (.l 3), none⟩] [(3, 4)]) (.cond (.s 3) (.seq (.reg false [⟨.mv (.c (.bool false)), none⟩] [(2, 0)]) .ret) .skip)) (.seq (.seq (.reg false [⟨.mv (.c (.int .i64 0)), none⟩] [(4, 0)]) (.block 0 (.loop (.seq (.seq (.reg false [⟨.mv (.s 4), none⟩, ⟨.mv (.s 0), none⟩, ⟨.len (.l 1), none⟩, ⟨.bin .lss (.l 0) (.l 2), none⟩] [(5, 3)]) (.cond (.s 5) .skip (.exit 0))) (.seq (.block 1 (.seq (.reg true [⟨.mv (.s 0), none⟩, ⟨.mv (.s 4), none⟩, ⟨.ia 6 (.l 0) (.l 1), none⟩, ⟨.ld 6 true (.l 2), none⟩, ⟨.mv (.s 1), none⟩, ⟨.mv (.s 4), none⟩, ⟨.ia 6 (.l 4) (.l 5), none⟩, ⟨.ld 6 true (.l 6), none⟩, ⟨.eqA true true [.s, .i .i64, .i .i64, .i .i64, .s, .s] (.l 3) (.l 7), none⟩] [(6, 8)]) (.cond (.s 6) (.seq (.reg false [⟨.mv (.c (.bool false)), none⟩] [(2, 0)]) .ret) .skip))) (.reg false [⟨.mv (.s 4), none⟩, ⟨.bin .add (.l 0) (.c (.int .i64 1)), none⟩, ⟨.mv (.l 1), none⟩] [(4, 2)])))))) (.seq (.reg false [⟨.mv (.c (.bool true)), none⟩] [(2, 0)]) .ret)))) }
theorem w1185 {Γ : Ctx} (hm : (Γ.at 0).Mono)  (a : List Kp) (b : List Kp)  : wpA (Γ.at 0) law33_keeps.body (Res law33_keeps (.bool (decide (a = b))) : Ex → List Ent → St → Prop) (env0 law33_keeps [.sl 6 (a.map Kp.D), .sl 6 (b.map Kp.D)]) ⟨0, []⟩ := by
  show wpA _ _ _ [⟨true, .sl 6 (a.map Kp.D)⟩, ⟨true, .sl 6 (b.map Kp.D)⟩, .un, .un, .un, .un, .un] ⟨0, []⟩
  refine wp_regseq ?_; refine r_mv ?_; refine reg_end (env' := [_, _, ⟨_, (.bool _)⟩, _, _, _, _]) ?_; refine wp_assoc ?_; refine wp_regseq ?_; refine r_mv ?_
  refine r_lenM fun hlR1_1 => ?_; replace hlR1_1 := hlR1_1 rfl rfl
  refine r_mv ?_
  refine r_lenM fun hlR1_3 => ?_; replace hlR1_3 := hlR1_3 rfl rfl
  refine r_neqI ?_; refine reg_end (env' := [_, _, _, ⟨_, (.bool _)⟩, _, _, _]) ?_
  refine wp_condseq (fun hc0 => ?_) (fun hc0 => ?_)
  · try simp only [b0, b1, b2, b3, b4, b5, b6, b7, b8, b9, b10, b11] at hc0
    refine wp_assoc ?_; refine wp_regseq ?_; refine r_mv ?_; refine reg_end (env' := [_, _, ⟨_, (.bool _)⟩, _, _, _, _]) ?_; refine wp_retseq ?_
    refine res_of trivial q2 q3 (Eq.trans q7 (congrArg D.bool ?_))
    symm; rw [decide_eq_false_iff_not]; rintro rfl; exact hc0 rfl
  · try simp only [b0, b1, b2, b3, b4, b5, b6, b7, b8, b9, b10, b11] at hc0
    refine wp_skipseq ?_; refine wp_assoc ?_; refine wp_regseq ?_; refine r_mv ?_; refine reg_end (env' := [_, _, _, _, ⟨_, (.int _ _)⟩, _, _]) ?_
    have hab : a.length = b.length := by omega
    have hb := same_idx hab
    refine wp_for hm (ι := Nat) (fun i => [⟨true, .sl 6 (a.map Kp.D)⟩, ⟨true, .sl 6 (b.map Kp.D)⟩, .un, .un, ⟨true, .int .i64 (i : Nat)⟩, .un, .un]) (fun i => []) 7 (fun i => i ≤ a.length ∧ decide (a = b) = allF (fun i => decide (a[i]! = b[i]!)) i a.length) (fun i => a.length - i) 0 ⟨by omega, hb⟩ (Ghost.to [] q7 q7 q4 q1) ?_
    rintro i ⟨hi, hr⟩
    refine wp_assoc ?_; refine wp_regseq ?_; refine r_mv ?_; refine r_mv ?_
    refine r_lenM fun hlR4_2 => ?_; replace hlR4_2 := hlR4_2 rfl rfl
    refine r_lssI ?_; refine reg_end (env' := [_, _, _, _, _, ⟨_, (.bool _)⟩, _]) ?_
    refine wp_condseq (fun hc1 => ?_) (fun hc1 => ?_)
    · try simp only [b0, b1, b2, b3, b4, b5, b6, b7, b8, b9, b10, b11] at hc1
      refine wp_skipseq ?_
      refine wp_blockseq ?_ hm
      refine wp_regseq ?_; refine r_mv ?_; refine r_mv ?_
      first | refine r_iaM _ ?_ | refine r_iaMT ?_
      first | refine r_ldR (v := (Kp.D _)) ?_ | refine r_ldQ (v := (Kp.D _)) ?_
      refine r_mv ?_; refine r_mv ?_
      first | refine r_iaM _ ?_ | refine r_iaMT ?_
      first | refine r_ldR (v := (Kp.D _)) ?_ | refine r_ldQ (v := (Kp.D _)) ?_
      refine r_eqN (hb := Kp.eq _ _) ?_; refine reg_end (env' := [_, _, _, _, _, _, ⟨_, (.bool _)⟩]) ?_
      refine wp_cond (fun hc2 => ?_) (fun hc2 => ?_)
      · simp only [Bool.not_eq_true', decide_eq_false_iff_not] at hc2
        refine wp_regseq ?_; refine r_mv ?_; refine reg_end (env' := [_, _, ⟨_, (.bool _)⟩, _, _, _, _]) ?_; refine wp_ret ?_; refine BQ.ret ?_; refine LQ.ret ?_
        refine res_of trivial q2 q3 (Eq.trans q7 (congrArg D.bool ?_))
        rw [hr, allF_lt (by omega), decide_eq_false hc2]; rfl
      · simp only [Bool.not_eq_false', decide_eq_true_eq] at hc2
        refine wp_skip ?_; refine BQ.normal ?_; refine wp_reg ?_; refine r_mv ?_; refine r_add64 ?_; refine r_mv ?_; refine reg_fin (env' := [_, _, _, _, ⟨_, (.int _ _)⟩, _, _]) ?_; refine LQ.normal ?_
        exact ⟨i + 1, ⟨by omega, by rw [hr, allF_lt (by omega), decide_eq_true hc2]; rfl⟩, by omega, (Ghost.to [] q7 q7 q4 q1)⟩
    · try simp only [b0, b1, b2, b3, b4, b5, b6, b7, b8, b9, b10, b11] at hc1
      refine wp_exitseq ?_; refine LQ.out ?_; refine wp_regseq ?_; refine r_mv ?_; refine reg_end (env' := [_, _, ⟨_, (.bool _)⟩, _, _, _, _]) ?_; refine wp_ret ?_
      refine res_of trivial q2 q3 (Eq.trans q7 (congrArg D.bool ?_))
      rw [hr, allF_ge (by omega)]
def C1185 (Γ : Ctx) : Prop := ∀ (a : List Kp) (b : List Kp), Γ.pre 1185 [.sl 6 (a.map Kp.D), .sl 6 (b.map Kp.D)] ∧ Γ.val 1185 [.sl 6 (a.map Kp.D), .sl 6 (b.map Kp.D)] = .bool (decide (a = b))
end Go.Abs
end
section
namespace Go.Abs
open Go
/-- linchpin/linchpinlaw33.awake -/
def law33_awake : AFunc := { np := 0, ns := 8, res := [⟨0, none⟩], rsh := [[.a]], body := (.seq (.reg false [⟨.mv (.c (.bool false)), none⟩] [(0, 0)]) (.seq (.reg false [⟨.build [.int .i64 0, .int .i64 0, .int .i64 0, .str [], .str []] [(0, 1, (.c (.int .i64 1)))], none⟩, ⟨.bsl 1 (.str []) 1 [(0, (.c (.str [100, 101, 102, 97, 117, 108, 116])))], none⟩, ⟨.build [.str [], .int .i64 0, .int .i64 0, .int .i64 0, .str [], .str [], .str [], .int .u64 0, .nils] [(0, 1, (.c (.str [97, 110, 116]))), (1, 5, (.l 0)), (6, 1, (.c (.str [109, 97, 105, 110]))), (7, 1, (.c (.int .u64 5))), (8, 1, (.l 1))], none⟩, ⟨.bsl 9 (.agg [.str [], .int .i64 0, .int .i64 0, .int .i64 0, .str [], .str [], .str [], .int .u64 0, .nils]) 1 [(0, (.l 2))], none⟩, ⟨.build [.str [], .str [], .str [], .nils] [(3, 1, (.l 3))], none⟩, ⟨.box 4 (.c (.agg [.str [], .str [], .str [], .nils])), none⟩, ⟨.st 4 (.l 5) (.l 4), none⟩] [(1, 5)]) (.seq (.reg false [⟨.ld 4 true (.s 1), none⟩, ⟨.call 312 [(.l 0)] [[.a, .a, .a, .sl 9 [.a, .a, .a, .a, .a, .a, .a, .a, .sl 1 [.a]]]], none⟩, ⟨.mv (.l 1), none⟩, ⟨.ext (.l 2) 0, none⟩, ⟨.ext (.l 2) 1, none⟩, ⟨.mv (.l 3), none⟩, ⟨.mv (.l 4), none⟩] [(2, 5), (3, 6)]) (.seq (.reg false [⟨.mv (.s 2), none⟩, ⟨.call 309 [(.l 0)] [[.a]], none⟩, ⟨.mv (.l 1), none⟩, ⟨.ext (.l 2) 0, none⟩, ⟨.ext (.l 2) 1, none⟩, ⟨.ext (.l 2) 2, none⟩, ⟨.box 4 (.c (.agg [.str [], .str [], .str [], .nils])), none⟩, ⟨.st 4 (.l 6) (.l 3), none⟩, ⟨.mv (.l 4), none⟩, ⟨.mv (.l 5), none⟩] [(7, 6), (5, 8), (6, 9)]) (.seq (.reg false [⟨.mv (.c (.str [108, 105, 110, 99, 104, 112, 105, 110, 32, 108, 111, 99, 107, 10, 112, 108, 97, 116, 102, 111, 114, 109, 32, 45, 32, 45, 32, 45, 10, 97, 110, 116, 32, 49, 46, 48, 46, 48, 32, 109, 97, 105, 110, 32, 48, 48, 48, 48, 48, 48, 48, 48, 48, 48, 48, 48, 48, 48, 48, 53, 32, 100, 101, 102, 97, 117, 108, 116, 10])), none⟩] [(4, 0)]) (.seq (.reg false [⟨.mv (.s 3), none⟩, ⟨.bin .eql (.l 0) (.c (.int .i64 0)), none⟩, ⟨.mv (.l 1), none⟩, ⟨.mv (.s 2), some (2, true)⟩, ⟨.mv (.s 4), some (2, true)⟩, ⟨.bin .add (.l 4) (.c (.str [115, 117, 109, 32])), some (2, true)⟩, ⟨.mv (.s 4), some (2, true)⟩, ⟨.s2b (.l 6), some (2, true)⟩, ⟨.call 221 [(.l 7)] [[.sl 1 [.a]]], some (2, true)⟩, ⟨.call 313 [(.l 8)] [[.a]], some (2, true)⟩, ⟨.bin .add (.l 5) (.l 9), some (2, true)⟩, ⟨.bin .add (.l 10) (.c (.str [10])), some (2, true)⟩, ⟨.bin .eql (.l 3) (.l 11), some (2, true)⟩, ⟨.pick (.l 2) (.l 12) (.c (.bool false)), none⟩, ⟨.mv (.l 13), none⟩, ⟨.mv (.s 5), some (14, true)⟩, ⟨.bin .eql (.l 15) (.c (.int .i64 0)), some (14, true)⟩, ⟨.pick (.l 14) (.l 16) (.c (.bool false)), none⟩, ⟨.mv (.l 17), none⟩, ⟨.mv (.s 6), some (18, true)⟩, ⟨.bin .eql (.l 19) (.c (.int .i64 0)), some (18, true)⟩, ⟨.pick (.l 18) (.l 20) (.c (.bool false)), none⟩, ⟨.mv (.l 21), none⟩, ⟨.ld 4 true (.s 1), some (22, true)⟩, ⟨.ld 4 true (.s 7), some (22, true)⟩, ⟨.call 314 [(.l 23), (.l 24)] [[.a, .a, .a, .sl 9 [.a, .a, .a, .a, .a, .a, .a, .a, .sl 1 [.a]]], [.a, .a, .a, .sl 9 [.a, .a, .a, .a, .a, .a, .a, .a, .sl 1 [.a]]]], some (22, true)⟩, ⟨.pick (.l 22) (.l 25) (.c (.bool false)), none⟩, ⟨.mv (.l 26), none⟩, ⟨.ld 4 true (.s 1), some (27, true)⟩, ⟨.call 315 [(.l 28)] [[.a, .a, .a, .sl 9 [.a, .a, .a, .a, .a, .a, .a, .a, .sl 1 [.a]]]], some (27, true)⟩, ⟨.pick (.l 27) (.l 29) (.c (.bool false)), none⟩, ⟨.mv (.l 30), none⟩, ⟨.ld 4 true (.s 1), some (31, true)⟩, ⟨.call 294 [(.l 32), (.c (.str [97, 110, 116]))] [[.a, .a, .a, .sl 9 [.a, .a, .a, .a, .a, .a, .a, .a, .sl 1 [.a]]], [.a]], some (31, true)⟩, ⟨.bin .eql (.l 33) (.c (.int .i64 0)), some (31, true)⟩, ⟨.pick (.l 31) (.l 34) (.c (.bool false)), none⟩, ⟨.mv (.l 35), none⟩] [(0, 36)]) .ret)))))) }
theorem w119 {Γ : Ctx} (hm : (Γ.at 0).Mono) (h221 : C221 (Γ.at 0)) (h294 : C294 (Γ.at 0)) (h309 : C309 (Γ.at 0)) (h312 : C312 (Γ.at 0)) (h313 : C313 (Γ.at 0)) (h314 : C314 (Γ.at 0)) (h315 : C315 (Γ.at 0))   : wpA (Γ.at 0) law33_awake.body (Res law33_awake (.bool true) : Ex → List Ent → St → Prop) (env0 law33_awake []) ⟨0, []⟩ := by
  show wpA _ _ _ [.un, .un, .un, .un, .un, .un, .un, .un] ⟨0, []⟩
  refine wp_regseq ?_; refine r_mv ?_; refine reg_end (env' := [⟨_, (.bool _)⟩, _, _, _, _, _, _, _]) ?_; refine wp_regseq ?_; refine r_buildD (Ver.D ⟨1, 0, 0, [], []⟩) ?_; refine r_bsl [.str dflW] ?_; refine r_buildD (Lkd.F [97, 110, 116] ⟨1, 0, 0, [], []⟩ mainW 5 (.own 2 1 0 1)) ?_; refine r_bsl [(Lkd.F [97, 110, 116] ⟨1, 0, 0, [], []⟩ mainW 5 (.own 2 1 0 1))] ?_; refine r_build [.str [], .str [], .str [], .own 4 9 0 1] ?_; refine r_box ?_; refine r_stF (.agg [.str [], .str [], .str [], .own 4 9 0 1]) (he := by exact rfl) ?_; refine reg_end (env' := [_, ⟨_, _⟩, _, _, _, _, _, _]) ?_
  refine wp_fz 2 ?_ (he := by simp only [fzE, fzD, fzL, fzM, fzB, delL, Nat.reduceEqDiff, if_true, if_false, and_self, true_and, and_true, false_and, and_false, Nat.zero_add, List.length_map, Nat.le_refl, List.drop_zero, take_map_len, reduceCtorEq, List.length_cons, List.length_nil, Nat.reduceAdd, Nat.reduceLeDiff, fzD_F]; exact rfl) (hm := by simp only [fzE, fzD, fzL, fzM, fzB, delL, Nat.reduceEqDiff, if_true, if_false, and_self, true_and, and_true, false_and, and_false, Nat.zero_add, List.length_map, Nat.le_refl, List.drop_zero, take_map_len, reduceCtorEq, List.length_cons, List.length_nil, Nat.reduceAdd, Nat.reduceLeDiff, fzD_F]; exact rfl)
  refine wp_fz 4 ?_ (he := by simp only [fzE, fzD, fzL, fzM, fzB, delL, Nat.reduceEqDiff, if_true, if_false, and_self, true_and, and_true, false_and, and_false, Nat.zero_add, List.length_map, Nat.le_refl, List.drop_zero, take_map_len, reduceCtorEq, List.length_cons, List.length_nil, Nat.reduceAdd, Nat.reduceLeDiff, fzD_F]; exact rfl) (hm := by simp only [fzE, fzD, fzL, fzM, fzB, delL, Nat.reduceEqDiff, if_true, if_false, and_self, true_and, and_true, false_and, and_false, Nat.zero_add, List.length_map, Nat.le_refl, List.drop_zero, take_map_len, reduceCtorEq, List.length_cons, List.length_nil, Nat.reduceAdd, Nat.reduceLeDiff, fzD_F]; exact rfl)
  refine wp_regseq ?_; refine r_ldB (d := Lck.D awL) ?_; refine r_call (hc := h312 awL aw_sm) ?_; refine r_mv ?_; refine r_ext (.str _) ?_; refine r_ext (.int _ _) ?_; refine r_mv ?_; refine r_mv ?_; refine reg_end (env' := [_, _, ⟨_, (.str _)⟩, ⟨_, (.int _ _)⟩, _, _, _, _]) ?_
  rw [aw_prE]
  refine wp_regseq ?_; refine r_mv ?_
  refine r_call (hc := h309 (prS awL) (by have := prS_len awL; omega)) ?_; rw [aw_p]
  refine r_mv ?_; refine r_ext (Lck.D _) ?_; refine r_ext (.int _ _) ?_; refine r_ext (.int _ _) ?_; refine r_box ?_; refine r_stF (Lck.D awL) (he := by exact rfl) ?_; refine r_mv ?_; refine r_mv ?_; refine reg_end (env' := [_, _, _, _, _, ⟨_, (.int _ _)⟩, ⟨_, (.int _ _)⟩, ⟨_, _⟩]) ?_; refine wp_regseq ?_; refine r_mv (d := .str awF) ?_; refine reg_end (env' := [_, _, _, _, ⟨_, (.str _)⟩, _, _, _]) ?_; refine wp_regseq ?_; refine r_mv ?_
  refine r_eqlI ?_; rw [show decide ((0 : Int) = 0) = true from rfl]
  refine r_mv ?_; refine r_mv ?_; refine r_mv ?_
  refine r_addS (hb := fun _ => by decide) ?_
  refine r_mv ?_; refine r_s2b (s := awF) ?_
  refine r_call (hc := h221 awF) (ha := fun _ => congrArg (fun d => [d]) (xV_own1 (q := fun b : UInt8 => D.int .u8 b.toNat) (fun _ => rfl) q7)) (hp := fun _ => ⟨xVO_own1 (q := fun b : UInt8 => D.int .u8 b.toNat) (fun _ => rfl) q7, trivial⟩) ?_
  refine r_call (hc := h313 _) ?_
  refine r_addS (hb := fun _ => by simp only [List.length_append, textL_len]; decide) ?_
  refine r_addS (hb := fun _ => by simp only [List.length_append, textL_len]; decide) ?_
  refine r_eqlS ?_; rw [decide_eq_true aw_text]
  refine r_and ?_; refine r_mv ?_; refine r_mv ?_
  refine r_eqlI ?_; rw [show decide ((0 : Int) = 0) = true from rfl]
  refine r_and ?_; refine r_mv ?_; refine r_mv ?_
  refine r_eqlI ?_; rw [show decide ((0 : Int) = 0) = true from rfl]
  refine r_and ?_; refine r_mv ?_; refine r_ldB (d := Lck.D awL) ?_; refine r_ldB (d := Lck.D awL) ?_; refine r_call (hc := h314 awL awL) ?_; refine r_and ?_; refine r_mv ?_; refine r_ldB (d := Lck.D awL) ?_
  refine r_callG (hc := fun _ => h315 awL aw_sm) ?_
  refine r_and ?_; refine r_mv ?_; refine r_ldB (d := Lck.D awL) ?_; refine r_call (hc := h294 awL [97, 110, 116]) ?_; refine r_eqlI ?_; refine r_and ?_; refine r_mv ?_; refine reg_end (env' := [⟨_, (.bool _)⟩, _, _, _, _, _, _, _]) ?_; refine wp_ret ?_
  refine res_of trivial q2 q3 (Eq.trans q7 (congrArg D.bool ?_))
  rw [aw_may, aw_find]
  simp only [decide_true, Bool.and_true, Bool.true_and]
def C119 (Γ : Ctx) : Prop := Γ.pre 119 [] ∧ Γ.val 119 [] = .bool true
end Go.Abs
end
