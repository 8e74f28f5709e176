/- A part of the proofs of the statements of package linchpinlaw33: T5, T6, T7. -/
import Derived.Test.YtbpdiikonpbgeaaGreatDoorP06
set_option linter.all false
section
namespace Go.Abs
open Go
/-- linchpin/linchpinref33.lineMay -/
def ref33_lineMay : AFunc := { np := 1, ns := 7, res := [⟨1, none⟩], rsh := [[.a]], body := (.seq (.reg false [⟨.box 9 (.s 0), none⟩, ⟨.mv (.c (.bool false)), none⟩] [(2, 0), (1, 1)]) (.seq (.seq (.reg false [⟨.fa 0 (.s 2), none⟩, ⟨.ld 1 false (.l 0), none⟩, ⟨.call 216 [(.l 1)] [[.a]], none⟩, ⟨.un .not (.l 2), none⟩, ⟨.mv (.l 3), none⟩, ⟨.fa 1 (.s 2), some (4, false)⟩, ⟨.ld 5 true (.l 5), some (4, false)⟩, ⟨.call 217 [(.l 6)] [[.a, .a, .a, .a, .a]], some (4, false)⟩, ⟨.un .not (.l 7), some (4, false)⟩, ⟨.pick (.l 4) (.c (.bool true)) (.l 8), none⟩, ⟨.mv (.l 9), none⟩, ⟨.fa 6 (.s 2), some (10, false)⟩, ⟨.ld 1 false (.l 11), some (10, false)⟩, ⟨.bin .neq (.l 12) (.c (.str [])), some (10, false)⟩, ⟨.mv (.l 13), some (10, false)⟩, ⟨.fa 6 (.s 2), some (14, true)⟩, ⟨.ld 1 false (.l 15), some (14, true)⟩, ⟨.call 216 [(.l 16)] [[.a]], some (14, true)⟩, ⟨.un .not (.l 17), some (14, true)⟩, ⟨.pick (.l 14) (.l 18) (.c (.bool false)), some (10, false)⟩, ⟨.pick (.l 10) (.c (.bool true)) (.l 19), none⟩, ⟨.mv (.l 20), none⟩, ⟨.fa 6 (.s 2), some (21, false)⟩, ⟨.ld 1 false (.l 22), some (21, false)⟩, ⟨.bin .eql (.l 23) (.c (.str [])), some (21, false)⟩, ⟨.mv (.l 24), some (21, false)⟩, ⟨.fa 7 (.s 2), some (25, true)⟩, ⟨.ld 1 false (.l 26), some (25, true)⟩, ⟨.bin .neq (.l 27) (.c (.int .u64 0)), some (25, true)⟩, ⟨.pick (.l 25) (.l 28) (.c (.bool false)), some (21, false)⟩, ⟨.pick (.l 21) (.c (.bool true)) (.l 29), none⟩, ⟨.mv (.l 30), none⟩, ⟨.fa 8 (.s 2), some (31, false)⟩, ⟨.ld 1 false (.l 32), some (31, false)⟩, ⟨.len (.l 33), some (31, false)⟩, ⟨.bin .gtr (.l 34) (.c (.int .i64 9)), some (31, false)⟩, ⟨.pick (.l 31) (.c (.bool true)) (.l 35), none⟩] [(3, 36)]) (.cond (.s 3) (.seq (.reg false [⟨.mv (.c (.bool false)), none⟩] [(1, 0)]) .ret) .skip)) (.seq (.seq (.reg false [⟨.mv (.c (.int .i64 0)), none⟩] [(4, 0)]) (.block 0 (.loop (.seq (.seq (.reg false [⟨.mv (.s 4), none⟩, ⟨.fa 8 (.s 2), none⟩, ⟨.ld 1 false (.l 1), none⟩, ⟨.len (.l 2), none⟩, ⟨.bin .lss (.l 0) (.l 3), none⟩] [(5, 4)]) (.cond (.s 5) .skip (.exit 0))) (.seq (.block 1 (.seq (.reg true [⟨.fa 8 (.s 2), none⟩, ⟨.ld 1 false (.l 0), none⟩, ⟨.mv (.s 4), none⟩, ⟨.ia 1 (.l 1) (.l 2), none⟩, ⟨.ld 1 false (.l 3), none⟩, ⟨.call 357 [(.l 4)] [[.a]], none⟩, ⟨.un .not (.l 5), none⟩, ⟨.mv (.l 6), none⟩, ⟨.mv (.s 4), some (7, false)⟩, ⟨.bin .gtr (.l 8) (.c (.int .i64 0)), some (7, false)⟩, ⟨.mv (.l 9), some (7, false)⟩, ⟨.fa 8 (.s 2), some (10, true)⟩, ⟨.ld 1 false (.l 11), some (10, true)⟩, ⟨.mv (.s 4), some (10, true)⟩, ⟨.bin .sub (.l 13) (.c (.int .i64 1)), some (10, true)⟩, ⟨.ia 1 (.l 12) (.l 14), some (10, true)⟩, ⟨.ld 1 false (.l 15), some (10, true)⟩, ⟨.fa 8 (.s 2), some (10, true)⟩, ⟨.ld 1 false (.l 17), some (10, true)⟩, ⟨.mv (.s 4), some (10, true)⟩, ⟨.ia 1 (.l 18) (.l 19), some (10, true)⟩, ⟨.ld 1 false (.l 20), some (10, true)⟩, ⟨.bin .geq (.l 16) (.l 21), some (10, true)⟩, ⟨.pick (.l 10) (.l 22) (.c (.bool false)), some (7, false)⟩, ⟨.pick (.l 7) (.c (.bool true)) (.l 23), none⟩] [(6, 24)]) (.cond (.s 6) (.seq (.reg false [⟨.mv (.c (.bool false)), none⟩] [(1, 0)]) .ret) .skip))) (.reg false [⟨.mv (.s 4), none⟩, ⟨.bin .add (.l 0) (.c (.int .i64 1)), none⟩, ⟨.mv (.l 1), none⟩] [(4, 2)])))))) (.seq (.reg false [⟨.mv (.c (.bool true)), none⟩] [(1, 0)]) .ret)))) }
theorem w418 {Γ : Ctx} (hm : (Γ.at 0).Mono) (h216 : C216 (Γ.at 0)) (h217 : C217 (Γ.at 0)) (h357 : C357 (Γ.at 0)) (x : Lkd) (hp0 : x.sm) : wpA (Γ.at 0) ref33_lineMay.body (Res ref33_lineMay (.bool (lkdB x)) : Ex → List Ent → St → Prop) (env0 ref33_lineMay [Lkd.D x]) ⟨0, []⟩ := by
  show wpA _ _ _ [⟨true, Lkd.D x⟩, .un, .un, .un, .un, .un, .un] ⟨0, []⟩
  refine wp_regseq ?_; refine r_box ?_; refine r_mv ?_; refine reg_end (env' := [_, ⟨_, (.bool _)⟩, ⟨_, _⟩, _, _, _, _]) ?_; refine wp_assoc ?_; refine wp_regseq ?_; refine r_faP ?_; refine r_ldF (v := (.str _)) ?_; refine r_call (hc := h216 _) ?_; refine r_not ?_; refine r_mv ?_; refine r_faP ?_; refine r_ldF (v := (Ver.D _)) ?_
  refine r_callG (hc := fun hf => h217 x.v hp0.1) ?_
  refine r_not ?_; refine r_or ?_; refine r_mv ?_; refine r_faP ?_; refine r_ldF (v := (.str _)) ?_; refine r_neqS ?_; refine r_mv ?_; refine r_faP ?_; refine r_ldF (v := (.str _)) ?_; refine r_call (hc := h216 _) ?_; refine r_not ?_; refine r_and ?_; refine r_or ?_; refine r_mv ?_; refine r_faP ?_; refine r_ldF (v := (.str _)) ?_; refine r_eqlS ?_; refine r_mv ?_; refine r_faP ?_; refine r_ldF (v := (.int _ _)) ?_; refine r_neqI ?_; refine r_and ?_; refine r_or ?_; refine r_mv ?_; refine r_faP ?_
  first | refine r_ldF (v := .sl _ _) ?_ | refine r_ldF (v := .own _ _ _ _) ?_ | refine r_ldF (v := .nils) ?_
  refine r_lenM fun _ => ?_
  refine r_gtrI ?_; refine r_or ?_; refine reg_end (env' := [_, _, _, ⟨_, (.bool _)⟩, _, _, _]) ?_
  refine wp_condseq (fun hc0 => ?_) (fun hc0 => ?_)
  · try simp only [b0, b1, b2, b3, b4, b5, b6, b7, b8, b9, b10, b11] at hc0
    refine wp_assoc ?_; refine wp_regseq ?_; refine r_mv ?_; refine reg_end (env' := [_, ⟨_, (.bool _)⟩, _, _, _, _, _]) ?_; refine wp_retseq ?_
    refine res_of trivial q2 q3 (Eq.trans q7 (congrArg D.bool ?_))
    symm
    simp only [lkdB]
    by_cases h9 : x.feats.length ≤ 9
    · rw [decide_eq_true h9]
      have h9' : ¬ (9 : Int) < x.feats.length := by omega
      revert hc0
      generalize allF (featB x.feats) 0 x.feats.length = z
      generalize nameB x.name = a
      generalize verB x.v = b
      generalize nameB x.shelf = c
      by_cases e : x.shelf = [] <;> by_cases e2 : x.sum = 0 <;> cases a <;> cases b <;> cases c <;> cases z <;> simp_all
    · rw [decide_eq_false h9]; simp
  · try simp only [b0, b1, b2, b3, b4, b5, b6, b7, b8, b9, b10, b11] at hc0
    refine wp_skipseq ?_; refine wp_assoc ?_; refine wp_regseq ?_; refine r_mv ?_; refine reg_end (env' := [_, _, _, _, ⟨_, (.int _ _)⟩, _, _]) ?_
    have hb : lkdB x = allF (featB x.feats) 0 x.feats.length := by
      simp only [lkdB]
      have h9 : x.feats.length ≤ 9 := by omega
      rw [decide_eq_true h9]
      revert hc0
      generalize allF (featB x.feats) 0 x.feats.length = z
      generalize nameB x.name = a
      generalize verB x.v = b
      generalize nameB x.shelf = c
      by_cases e : x.shelf = [] <;> by_cases e2 : x.sum = 0 <;> cases a <;> cases b <;> cases c <;> cases z <;> simp_all
    refine wp_for hm (ι := Nat) (fun i => [.un, .un, ⟨true, .ptr 0 9 0 0⟩, .un, ⟨true, .int .i64 (i : Nat)⟩, .un, .un]) (fun i => [(0, .buf 9 [Lkd.D x])]) 40 (fun i => i ≤ x.feats.length ∧ lkdB x = allF (featB x.feats) i x.feats.length) (fun i => x.feats.length - i) 0 ⟨by omega, hb⟩ (Ghost.to [(0, 0)] q7 q7 q4 q1) ?_
    rintro i ⟨hi, hr⟩
    refine wp_assoc ?_; refine wp_regseq ?_; refine r_mv ?_; refine r_faP ?_
    first | refine r_ldF (v := .sl _ _) ?_ | refine r_ldF (v := .own _ _ _ _) ?_ | refine r_ldF (v := .nils) ?_
    refine r_lenM fun hlR4_3 => ?_; replace hlR4_3 := hlR4_3 rfl rfl
    refine r_lssI ?_; refine reg_end (env' := [_, _, _, _, _, ⟨_, (.bool _)⟩, _]) ?_
    refine wp_condseq (fun hc1 => ?_) (fun hc1 => ?_)
    · try simp only [b0, b1, b2, b3, b4, b5, b6, b7, b8, b9, b10, b11] at hc1
      refine wp_skipseq ?_
      refine wp_blockseq ?_ hm
      refine wp_regseq ?_; refine r_faP ?_
      first | refine r_ldF (v := .sl _ _) ?_ | refine r_ldF (v := .own _ _ _ _) ?_ | refine r_ldF (v := .nils) ?_
      refine r_mv ?_
      first | refine r_iaM _ ?_ | refine r_iaMT ?_
      first | refine r_ldR (v := (.str _)) ?_ | refine r_ldQ (v := (.str _)) ?_
      refine r_call (hc := h357 _) ?_; refine r_not ?_; refine r_mv ?_; refine r_mv ?_; refine r_gtrI ?_; refine r_mv ?_; refine r_faP ?_
      first | refine r_ldF (v := .sl _ _) ?_ | refine r_ldF (v := .own _ _ _ _) ?_ | refine r_ldF (v := .nils) ?_
      refine r_mv ?_; refine r_sub64 ?_; refine r_iaM (i - 1) ?_
      first | refine r_ldR (v := (.str _)) ?_ | refine r_ldQ (v := (.str _)) ?_
      refine r_faP ?_
      first | refine r_ldF (v := .sl _ _) ?_ | refine r_ldF (v := .own _ _ _ _) ?_ | refine r_ldF (v := .nils) ?_
      refine r_mv ?_
      first | refine r_iaM _ ?_ | refine r_iaMT ?_
      first | refine r_ldR (v := (.str _)) ?_ | refine r_ldQ (v := (.str _)) ?_
      refine r_geqS ?_; refine r_and ?_; refine r_or ?_; refine reg_end (env' := [_, _, _, _, _, _, ⟨_, (.bool _)⟩]) ?_
      refine wp_cond (fun hc2 => ?_) (fun hc2 => ?_)
      · try simp only [b0, b1, b2, b3, b4, b5, b6, b7, b8, b9, b10, b11] at hc2
        refine wp_regseq ?_; refine r_mv ?_; refine reg_end (env' := [_, ⟨_, (.bool _)⟩, _, _, _, _, _]) ?_; refine wp_ret ?_; refine BQ.ret ?_; refine LQ.ret ?_
        refine res_of trivial q2 q3 (Eq.trans q7 (congrArg D.bool ?_))
        have hz : featB x.feats i = false := by
          simp only [featB]
          revert hc2
          generalize wordB x.feats[i]! = z0
          generalize Op.bytesLess x.feats[i - 1]! x.feats[i]! = z1
          by_cases e0 : 0 < i <;> cases z0 <;> cases z1 <;> simp_all
        rw [hr, allF_lt (by omega), hz]; rfl
      · try simp only [b0, b1, b2, b3, b4, b5, b6, b7, b8, b9, b10, b11] at hc2
        refine wp_skip ?_; refine BQ.normal ?_; refine wp_reg ?_; refine r_mv ?_; refine r_add64 ?_; refine r_mv ?_; refine reg_fin (env' := [_, _, _, _, ⟨_, (.int _ _)⟩, _, _]) ?_; refine LQ.normal ?_
        have hz : featB x.feats i = true := by
          simp only [featB]
          revert hc2
          generalize wordB x.feats[i]! = z0
          generalize Op.bytesLess x.feats[i - 1]! x.feats[i]! = z1
          by_cases e0 : 0 < i <;> cases z0 <;> cases z1 <;> simp_all
        exact ⟨i + 1, ⟨by omega, by rw [hr, allF_lt (by omega), hz]; rfl⟩, by omega, (Ghost.to [(0, 0)] q7 q7 q4 q1)⟩
    · try simp only [b0, b1, b2, b3, b4, b5, b6, b7, b8, b9, b10, b11] at hc1
      refine wp_exitseq ?_; refine LQ.out ?_; refine wp_regseq ?_; refine r_mv ?_; refine reg_end (env' := [_, ⟨_, (.bool _)⟩, _, _, _, _, _]) ?_; refine wp_ret ?_
      refine res_of trivial q2 q3 (Eq.trans q7 (congrArg D.bool ?_))
      rw [hr, allF_ge (by omega)]
def C418 (Γ : Ctx) : Prop := ∀ (x : Lkd), (x.sm) → Γ.pre 418 [Lkd.D x] ∧ Γ.val 418 [Lkd.D x] = .bool (lkdB x)
/-- linchpin/linchpinref33.May -/
def ref33_May : AFunc := { np := 1, ns := 7, res := [⟨1, none⟩], rsh := [[.a]], body := (.seq (.reg false [⟨.box 4 (.s 0), none⟩, ⟨.mv (.c (.bool false)), none⟩] [(2, 0), (1, 1)]) (.seq (.seq (.reg false [⟨.fa 0 (.s 2), none⟩, ⟨.ld 3 true (.l 0), none⟩, ⟨.call 144 [(.l 1)] [[.a, .a, .a]], none⟩, ⟨.un .not (.l 2), none⟩, ⟨.mv (.l 3), none⟩, ⟨.fa 3 (.s 2), some (4, false)⟩, ⟨.ld 1 false (.l 5), some (4, false)⟩, ⟨.len (.l 6), some (4, false)⟩, ⟨.bin .gtr (.l 7) (.c (.int .i64 48)), some (4, false)⟩, ⟨.pick (.l 4) (.c (.bool true)) (.l 8), none⟩] [(3, 9)]) (.cond (.s 3) (.seq (.reg false [⟨.mv (.c (.bool false)), none⟩] [(1, 0)]) .ret) .skip)) (.seq (.seq (.reg false [⟨.mv (.c (.int .i64 0)), none⟩] [(4, 0)]) (.block 0 (.loop (.seq (.seq (.reg false [⟨.mv (.s 4), none⟩, ⟨.fa 3 (.s 2), none⟩, ⟨.ld 1 false (.l 1), none⟩, ⟨.len (.l 2), none⟩, ⟨.bin .lss (.l 0) (.l 3), none⟩] [(5, 4)]) (.cond (.s 5) .skip (.exit 0))) (.seq (.block 1 (.seq (.reg true [⟨.fa 3 (.s 2), none⟩, ⟨.ld 1 false (.l 0), none⟩, ⟨.mv (.s 4), none⟩, ⟨.ia 9 (.l 1) (.l 2), none⟩, ⟨.ld 9 true (.l 3), none⟩, ⟨.call 418 [(.l 4)] [[.a, .a, .a, .a, .a, .a, .a, .a, .sl 1 [.a]]], none⟩, ⟨.un .not (.l 5), none⟩, ⟨.mv (.l 6), none⟩, ⟨.mv (.s 4), some (7, false)⟩, ⟨.bin .gtr (.l 8) (.c (.int .i64 0)), some (7, false)⟩, ⟨.mv (.l 9), some (7, false)⟩, ⟨.fa 3 (.s 2), some (10, true)⟩, ⟨.ld 1 false (.l 11), some (10, true)⟩, ⟨.mv (.s 4), some (10, true)⟩, ⟨.bin .sub (.l 13) (.c (.int .i64 1)), some (10, true)⟩, ⟨.ia 9 (.l 12) (.l 14), some (10, true)⟩, ⟨.fa 0 (.l 15), some (10, true)⟩, ⟨.ld 1 false (.l 16), some (10, true)⟩, ⟨.fa 3 (.s 2), some (10, true)⟩, ⟨.ld 1 false (.l 18), some (10, true)⟩, ⟨.mv (.s 4), some (10, true)⟩, ⟨.ia 9 (.l 19) (.l 20), some (10, true)⟩, ⟨.fa 0 (.l 21), some (10, true)⟩, ⟨.ld 1 false (.l 22), some (10, true)⟩, ⟨.bin .geq (.l 17) (.l 23), some (10, true)⟩, ⟨.pick (.l 10) (.l 24) (.c (.bool false)), some (7, false)⟩, ⟨.pick (.l 7) (.c (.bool true)) (.l 25), none⟩] [(6, 26)]) (.cond (.s 6) (.seq (.reg false [⟨.mv (.c (.bool false)), none⟩] [(1, 0)]) .ret) .skip))) (.reg false [⟨.mv (.s 4), none⟩, ⟨.bin .add (.l 0) (.c (.int .i64 1)), none⟩, ⟨.mv (.l 1), none⟩] [(4, 2)])))))) (.seq (.reg false [⟨.mv (.c (.bool true)), none⟩] [(1, 0)]) .ret)))) }
theorem w189 {Γ : Ctx} (hm : (Γ.at 0).Mono) (h144 : C144 (Γ.at 0)) (h418 : C418 (Γ.at 0)) (l : Lck) (hp0 : l.sm) : wpA (Γ.at 0) ref33_May.body (Res ref33_May (.bool (lckB l)) : Ex → List Ent → St → Prop) (env0 ref33_May [Lck.D l]) ⟨0, []⟩ := by
  show wpA _ _ _ [⟨true, Lck.D l⟩, .un, .un, .un, .un, .un, .un] ⟨0, []⟩
  refine wp_regseq ?_; refine r_box ?_; refine r_mv ?_; refine reg_end (env' := [_, ⟨_, (.bool _)⟩, ⟨_, _⟩, _, _, _, _]) ?_; refine wp_assoc ?_; refine wp_regseq ?_; refine r_faP ?_; refine r_ldF (v := (Env.D _)) ?_; refine r_call (hc := h144 l.env) ?_; refine r_not ?_; refine r_mv ?_; refine r_faP ?_
  first | refine r_ldF (v := .sl _ _) ?_ | refine r_ldF (v := .own _ _ _ _) ?_ | refine r_ldF (v := .nils) ?_
  refine r_lenM fun _ => ?_
  refine r_gtrI ?_; refine r_or ?_; refine reg_end (env' := [_, _, _, ⟨_, (.bool _)⟩, _, _, _]) ?_
  refine wp_condseq (fun hc0 => ?_) (fun hc0 => ?_)
  · try simp only [b0, b1, b2, b3, b4, b5, b6, b7, b8, b9, b10, b11] at hc0
    refine wp_assoc ?_; refine wp_regseq ?_; refine r_mv ?_; refine reg_end (env' := [_, ⟨_, (.bool _)⟩, _, _, _, _, _]) ?_; refine wp_retseq ?_
    refine res_of trivial q2 q3 (Eq.trans q7 (congrArg D.bool ?_))
    symm
    simp only [lckB]
    rcases hc0 with h | h
    · rw [h]; rfl
    · rw [decide_eq_false (by omega : ¬ l.lines.length ≤ 48)]; simp
  · try simp only [b0, b1, b2, b3, b4, b5, b6, b7, b8, b9, b10, b11] at hc0
    refine wp_skipseq ?_; refine wp_assoc ?_; refine wp_regseq ?_; refine r_mv ?_; refine reg_end (env' := [_, _, _, _, ⟨_, (.int _ _)⟩, _, _]) ?_
    have hb : lckB l = allF (lineB l.lines) 0 l.lines.length := by
      simp only [lckB]
      have h9 : l.lines.length ≤ 48 := by omega
      rw [decide_eq_true h9]
      revert hc0
      generalize envB l.env = a
      cases a <;> simp_all
    refine wp_for hm (ι := Nat) (fun i => [.un, .un, ⟨true, .ptr 0 4 0 0⟩, .un, ⟨true, .int .i64 (i : Nat)⟩, .un, .un]) (fun i => [(0, .buf 4 [Lck.D l])]) 13 (fun i => i ≤ l.lines.length ∧ lckB l = allF (lineB l.lines) i l.lines.length) (fun i => l.lines.length - i) 0 ⟨by omega, hb⟩ (Ghost.to [(0, 0)] q7 q7 q4 q1) ?_
    rintro i ⟨hi, hr⟩
    refine wp_assoc ?_; refine wp_regseq ?_; refine r_mv ?_; refine r_faP ?_
    first | refine r_ldF (v := .sl _ _) ?_ | refine r_ldF (v := .own _ _ _ _) ?_ | refine r_ldF (v := .nils) ?_
    refine r_lenM fun hlR4_3 => ?_; replace hlR4_3 := hlR4_3 rfl rfl
    refine r_lssI ?_; refine reg_end (env' := [_, _, _, _, _, ⟨_, (.bool _)⟩, _]) ?_
    refine wp_condseq (fun hc1 => ?_) (fun hc1 => ?_)
    · try simp only [b0, b1, b2, b3, b4, b5, b6, b7, b8, b9, b10, b11] at hc1
      refine wp_skipseq ?_
      refine wp_blockseq ?_ hm
      refine wp_regseq ?_; refine r_faP ?_
      first | refine r_ldF (v := .sl _ _) ?_ | refine r_ldF (v := .own _ _ _ _) ?_ | refine r_ldF (v := .nils) ?_
      refine r_mv ?_
      first | refine r_iaM _ ?_ | refine r_iaMT ?_
      first | refine r_ldR (v := (Lkd.D _)) ?_ | refine r_ldQ (v := (Lkd.D _)) ?_
      refine r_call (hc := h418 l.lines[i]! (hp0.2.1 _ (mem_get (by omega)))) ?_; refine r_not ?_; refine r_mv ?_; refine r_mv ?_; refine r_gtrI ?_; refine r_mv ?_; refine r_faP ?_
      first | refine r_ldF (v := .sl _ _) ?_ | refine r_ldF (v := .own _ _ _ _) ?_ | refine r_ldF (v := .nils) ?_
      refine r_mv ?_; refine r_sub64 ?_; refine r_iaM (i - 1) ?_; refine r_faR ?_
      first | refine r_ldR (v := (.str _)) ?_ | refine r_ldQ (v := (.str _)) ?_
      refine r_faP ?_
      first | refine r_ldF (v := .sl _ _) ?_ | refine r_ldF (v := .own _ _ _ _) ?_ | refine r_ldF (v := .nils) ?_
      refine r_mv ?_
      first | refine r_iaM _ ?_ | refine r_iaMT ?_
      refine r_faR ?_
      first | refine r_ldR (v := (.str _)) ?_ | refine r_ldQ (v := (.str _)) ?_
      refine r_geqS ?_; refine r_and ?_; refine r_or ?_; refine reg_end (env' := [_, _, _, _, _, _, ⟨_, (.bool _)⟩]) ?_
      refine wp_cond (fun hc2 => ?_) (fun hc2 => ?_)
      · try simp only [b0, b1, b2, b3, b4, b5, b6, b7, b8, b9, b10, b11] at hc2
        refine wp_regseq ?_; refine r_mv ?_; refine reg_end (env' := [_, ⟨_, (.bool _)⟩, _, _, _, _, _]) ?_; refine wp_ret ?_; refine BQ.ret ?_; refine LQ.ret ?_
        refine res_of trivial q2 q3 (Eq.trans q7 (congrArg D.bool ?_))
        have hz : lineB l.lines i = false := by
          simp only [lineB]
          revert hc2
          generalize lkdB l.lines[i]! = z0
          generalize Op.bytesLess l.lines[i - 1]!.name l.lines[i]!.name = z1
          by_cases e0 : 0 < i <;> cases z0 <;> cases z1 <;> simp_all
        rw [hr, allF_lt (by omega), hz]; rfl
      · try simp only [b0, b1, b2, b3, b4, b5, b6, b7, b8, b9, b10, b11] at hc2
        refine wp_skip ?_; refine BQ.normal ?_; refine wp_reg ?_; refine r_mv ?_; refine r_add64 ?_; refine r_mv ?_; refine reg_fin (env' := [_, _, _, _, ⟨_, (.int _ _)⟩, _, _]) ?_; refine LQ.normal ?_
        have hz : lineB l.lines i = true := by
          simp only [lineB]
          revert hc2
          generalize lkdB l.lines[i]! = z0
          generalize Op.bytesLess l.lines[i - 1]!.name l.lines[i]!.name = z1
          by_cases e0 : 0 < i <;> cases z0 <;> cases z1 <;> simp_all
        exact ⟨i + 1, ⟨by omega, by rw [hr, allF_lt (by omega), hz]; rfl⟩, by omega, (Ghost.to [(0, 0)] q7 q7 q4 q1)⟩
    · try simp only [b0, b1, b2, b3, b4, b5, b6, b7, b8, b9, b10, b11] at hc1
      refine wp_exitseq ?_; refine LQ.out ?_; refine wp_regseq ?_; refine r_mv ?_; refine reg_end (env' := [_, ⟨_, (.bool _)⟩, _, _, _, _, _]) ?_; refine wp_ret ?_
      refine res_of trivial q2 q3 (Eq.trans q7 (congrArg D.bool ?_))
      rw [hr, allF_ge (by omega)]
def C189 (Γ : Ctx) : Prop := ∀ (l : Lck), (l.sm) → Γ.pre 189 [Lck.D l] ∧ Γ.val 189 [Lck.D l] = .bool (lckB l)
/-- linchpin/linchpinref33.SameLine -/
def ref33_SameLine : AFunc := { np := 2, ns := 9, res := [⟨2, none⟩], rsh := [[.a]], body := (.seq (.reg false [⟨.box 9 (.s 0), none⟩, ⟨.box 9 (.s 1), none⟩, ⟨.mv (.c (.bool false)), none⟩] [(3, 0), (4, 1), (2, 2)]) (.seq (.seq (.reg false [⟨.fa 0 (.s 3), none⟩, ⟨.ld 1 false (.l 0), none⟩, ⟨.fa 0 (.s 4), none⟩, ⟨.ld 1 false (.l 2), none⟩, ⟨.bin .neq (.l 1) (.l 3), none⟩, ⟨.mv (.l 4), none⟩, ⟨.fa 1 (.s 3), some (5, false)⟩, ⟨.ld 5 true (.l 6), some (5, false)⟩, ⟨.fa 1 (.s 4), some (5, false)⟩, ⟨.ld 5 true (.l 8), some (5, false)⟩, ⟨.eqA true true [.i .i64, .i .i64, .i .i64, .s, .s] (.l 7) (.l 9), some (5, false)⟩, ⟨.pick (.l 5) (.c (.bool true)) (.l 10), none⟩, ⟨.mv (.l 11), none⟩, ⟨.fa 6 (.s 3), some (12, false)⟩, ⟨.ld 1 false (.l 13), some (12, false)⟩, ⟨.fa 6 (.s 4), some (12, false)⟩, ⟨.ld 1 false (.l 15), some (12, false)⟩, ⟨.bin .neq (.l 14) (.l 16), some (12, false)⟩, ⟨.pick (.l 12) (.c (.bool true)) (.l 17), none⟩, ⟨.mv (.l 18), none⟩, ⟨.fa 7 (.s 3), some (19, false)⟩, ⟨.ld 1 false (.l 20), some (19, false)⟩, ⟨.fa 7 (.s 4), some (19, false)⟩, ⟨.ld 1 false (.l 22), some (19, false)⟩, ⟨.bin .neq (.l 21) (.l 23), some (19, false)⟩, ⟨.pick (.l 19) (.c (.bool true)) (.l 24), none⟩, ⟨.mv (.l 25), none⟩, ⟨.fa 8 (.s 3), some (26, false)⟩, ⟨.ld 1 false (.l 27), some (26, false)⟩, ⟨.len (.l 28), some (26, false)⟩, ⟨.fa 8 (.s 4), some (26, false)⟩, ⟨.ld 1 false (.l 30), some (26, false)⟩, ⟨.len (.l 31), some (26, false)⟩, ⟨.bin .neq (.l 29) (.l 32), some (26, false)⟩, ⟨.pick (.l 26) (.c (.bool true)) (.l 33), none⟩] [(5, 34)]) (.cond (.s 5) (.seq (.reg false [⟨.mv (.c (.bool false)), none⟩] [(2, 0)]) .ret) .skip)) (.seq (.seq (.reg false [⟨.mv (.c (.int .i64 0)), none⟩] [(6, 0)]) (.block 0 (.loop (.seq (.seq (.reg false [⟨.mv (.s 6), none⟩, ⟨.fa 8 (.s 3), none⟩, ⟨.ld 1 false (.l 1), none⟩, ⟨.len (.l 2), none⟩, ⟨.bin .lss (.l 0) (.l 3), none⟩] [(7, 4)]) (.cond (.s 7) .skip (.exit 0))) (.seq (.block 1 (.seq (.reg true [⟨.fa 8 (.s 3), none⟩, ⟨.ld 1 false (.l 0), none⟩, ⟨.mv (.s 6), none⟩, ⟨.ia 1 (.l 1) (.l 2), none⟩, ⟨.ld 1 false (.l 3), none⟩, ⟨.fa 8 (.s 4), none⟩, ⟨.ld 1 false (.l 5), none⟩, ⟨.mv (.s 6), none⟩, ⟨.ia 1 (.l 6) (.l 7), none⟩, ⟨.ld 1 false (.l 8), none⟩, ⟨.bin .neq (.l 4) (.l 9), none⟩] [(8, 10)]) (.cond (.s 8) (.seq (.reg false [⟨.mv (.c (.bool false)), none⟩] [(2, 0)]) .ret) .skip))) (.reg false [⟨.mv (.s 6), none⟩, ⟨.bin .add (.l 0) (.c (.int .i64 1)), none⟩, ⟨.mv (.l 1), none⟩] [(6, 2)])))))) (.seq (.reg false [⟨.mv (.c (.bool true)), none⟩] [(2, 0)]) .ret)))) }
theorem w311 {Γ : Ctx} (hm : (Γ.at 0).Mono)  (a : Lkd) (b : Lkd)  : wpA (Γ.at 0) ref33_SameLine.body (Res ref33_SameLine (.bool (decide (a = b))) : Ex → List Ent → St → Prop) (env0 ref33_SameLine [Lkd.D a, Lkd.D b]) ⟨0, []⟩ := by
  show wpA _ _ _ [⟨true, Lkd.D a⟩, ⟨true, Lkd.D b⟩, .un, .un, .un, .un, .un, .un, .un] ⟨0, []⟩
  refine wp_regseq ?_; refine r_box ?_; refine r_box ?_; refine r_mv ?_; refine reg_end (env' := [_, _, ⟨_, (.bool _)⟩, ⟨_, _⟩, ⟨_, _⟩, _, _, _, _]) ?_; refine wp_assoc ?_; refine wp_regseq ?_; refine r_faP ?_; refine r_ldF (v := (.str _)) ?_; refine r_faP ?_; refine r_ldF (v := (.str _)) ?_; refine r_neqS ?_; refine r_mv ?_; refine r_faP ?_; refine r_ldF (v := (Ver.D _)) ?_; refine r_faP ?_; refine r_ldF (v := (Ver.D _)) ?_; refine r_eqN (hb := Ver.eq _ _) ?_; refine r_or ?_; refine r_mv ?_; refine r_faP ?_; refine r_ldF (v := (.str _)) ?_; refine r_faP ?_; refine r_ldF (v := (.str _)) ?_; refine r_neqS ?_
  refine r_or ?_; refine r_mv ?_; refine r_faP ?_; refine r_ldF (v := (.int _ _)) ?_; refine r_faP ?_; refine r_ldF (v := (.int _ _)) ?_; refine r_neqI ?_; refine r_or ?_; refine r_mv ?_; refine r_faP ?_
  first | refine r_ldF (v := .sl _ _) ?_ | refine r_ldF (v := .own _ _ _ _) ?_ | refine r_ldF (v := .nils) ?_
  refine r_lenM fun _ => ?_
  refine r_faP ?_
  first | refine r_ldF (v := .sl _ _) ?_ | refine r_ldF (v := .own _ _ _ _) ?_ | refine r_ldF (v := .nils) ?_
  refine r_lenM fun _ => ?_
  refine r_neqI ?_; refine r_or ?_; refine reg_end (env' := [_, _, _, _, _, ⟨_, (.bool _)⟩, _, _, _]) ?_
  refine wp_condseq (fun hc0 => ?_) (fun hc0 => ?_)
  · simp only [Bool.or_eq_true, Bool.not_eq_true', decide_eq_false_iff_not] at hc0
    refine wp_assoc ?_; refine wp_regseq ?_; refine r_mv ?_; refine reg_end (env' := [_, _, ⟨_, (.bool _)⟩, _, _, _, _, _, _]) ?_; refine wp_retseq ?_
    refine res_of trivial q2 q3 (Eq.trans q7 (congrArg D.bool ?_))
    symm; rw [decide_eq_false_iff_not]; rintro rfl; simp at hc0
  · simp only [Bool.or_eq_false_iff, Bool.not_eq_false', decide_eq_true_eq] at hc0
    refine wp_skipseq ?_; refine wp_assoc ?_; refine wp_regseq ?_; refine r_mv ?_; refine reg_end (env' := [_, _, _, _, _, _, ⟨_, (.int _ _)⟩, _, _]) ?_
    obtain ⟨⟨⟨⟨e1, e2⟩, e3⟩, e4⟩, e5⟩ := hc0
    have e5 : a.feats.length = b.feats.length := by omega
    have hb := Lkd.same e1 e2 e3 e4 e5
    refine wp_for hm (ι := Nat) (fun i => [.un, .un, .un, ⟨true, .ptr 0 9 0 0⟩, ⟨true, .ptr 1 9 0 0⟩, .un, ⟨true, .int .i64 (i : Nat)⟩, .un, .un]) (fun i => [(0, .buf 9 [Lkd.D a]), (1, .buf 9 [Lkd.D b])]) 39 (fun i => i ≤ a.feats.length ∧ decide (a = b) = allF (fun i => decide (a.feats[i]! = b.feats[i]!)) i a.feats.length) (fun i => a.feats.length - i) 0 ⟨by omega, hb⟩ (Ghost.to [(0, 0), (1, 1)] q7 q7 q4 q1) ?_
    rintro i ⟨hi, hr⟩
    refine wp_assoc ?_; refine wp_regseq ?_; refine r_mv ?_; refine r_faP ?_
    first | refine r_ldF (v := .sl _ _) ?_ | refine r_ldF (v := .own _ _ _ _) ?_ | refine r_ldF (v := .nils) ?_
    refine r_lenM fun hlR4_3 => ?_; replace hlR4_3 := hlR4_3 rfl rfl
    refine r_lssI ?_; refine reg_end (env' := [_, _, _, _, _, _, _, ⟨_, (.bool _)⟩, _]) ?_
    refine wp_condseq (fun hc1 => ?_) (fun hc1 => ?_)
    · try simp only [b0, b1, b2, b3, b4, b5, b6, b7, b8, b9, b10, b11] at hc1
      refine wp_skipseq ?_
      refine wp_blockseq ?_ hm
      refine wp_regseq ?_; refine r_faP ?_
      first | refine r_ldF (v := .sl _ _) ?_ | refine r_ldF (v := .own _ _ _ _) ?_ | refine r_ldF (v := .nils) ?_
      refine r_mv ?_
      first | refine r_iaM _ ?_ | refine r_iaMT ?_
      first | refine r_ldR (v := (.str _)) ?_ | refine r_ldQ (v := (.str _)) ?_
      refine r_faP ?_
      first | refine r_ldF (v := .sl _ _) ?_ | refine r_ldF (v := .own _ _ _ _) ?_ | refine r_ldF (v := .nils) ?_
      refine r_mv ?_
      first | refine r_iaM _ ?_ | refine r_iaMT ?_
      first | refine r_ldR (v := (.str _)) ?_ | refine r_ldQ (v := (.str _)) ?_
      refine r_neqS ?_; refine reg_end (env' := [_, _, _, _, _, _, _, _, ⟨_, (.bool _)⟩]) ?_
      refine wp_cond (fun hc2 => ?_) (fun hc2 => ?_)
      · simp only [Bool.not_eq_true', decide_eq_false_iff_not] at hc2
        refine wp_regseq ?_; refine r_mv ?_; refine reg_end (env' := [_, _, ⟨_, (.bool _)⟩, _, _, _, _, _, _]) ?_; refine wp_ret ?_; refine BQ.ret ?_; refine LQ.ret ?_
        refine res_of trivial q2 q3 (Eq.trans q7 (congrArg D.bool ?_))
        rw [hr, allF_lt (by omega), decide_eq_false hc2]; rfl
      · simp only [Bool.not_eq_false', decide_eq_true_eq] at hc2
        refine wp_skip ?_; refine BQ.normal ?_; refine wp_reg ?_; refine r_mv ?_; refine r_add64 ?_; refine r_mv ?_; refine reg_fin (env' := [_, _, _, _, _, _, ⟨_, (.int _ _)⟩, _, _]) ?_; refine LQ.normal ?_
        exact ⟨i + 1, ⟨by omega, by rw [hr, allF_lt (by omega), decide_eq_true hc2]; rfl⟩, by omega, (Ghost.to [(0, 0), (1, 1)] q7 q7 q4 q1)⟩
    · try simp only [b0, b1, b2, b3, b4, b5, b6, b7, b8, b9, b10, b11] at hc1
      refine wp_exitseq ?_; refine LQ.out ?_; refine wp_regseq ?_; refine r_mv ?_; refine reg_end (env' := [_, _, ⟨_, (.bool _)⟩, _, _, _, _, _, _]) ?_; refine wp_ret ?_
      refine res_of trivial q2 q3 (Eq.trans q7 (congrArg D.bool ?_))
      rw [hr, allF_ge (by omega)]
def C311 (Γ : Ctx) : Prop := ∀ (a : Lkd) (b : Lkd), Γ.pre 311 [Lkd.D a, Lkd.D b] ∧ Γ.val 311 [Lkd.D a, Lkd.D b] = .bool (decide (a = b))
/-- linchpin/linchpinref33.SameLines -/
def ref33_SameLines : AFunc := { np := 2, ns := 7, res := [⟨2, none⟩], rsh := [[.a]], body := (.seq (.reg false [⟨.mv (.c (.bool false)), none⟩] [(2, 0)]) (.seq (.seq (.reg false [⟨.mv (.s 0), none⟩, ⟨.len (.l 0), none⟩, ⟨.mv (.s 1), none⟩, ⟨.len (.l 2), none⟩, ⟨.bin .neq (.l 1) (.l 3), none⟩] [(3, 4)]) (.cond (.s 3) (.seq (.reg false [⟨.mv (.c (.bool false)), none⟩] [(2, 0)]) .ret) .skip)) (.seq (.seq (.reg false [⟨.mv (.c (.int .i64 0)), none⟩] [(4, 0)]) (.block 0 (.loop (.seq (.seq (.reg false [⟨.mv (.s 4), none⟩, ⟨.mv (.s 0), none⟩, ⟨.len (.l 1), none⟩, ⟨.bin .lss (.l 0) (.l 2), none⟩] [(5, 3)]) (.cond (.s 5) .skip (.exit 0))) (.seq (.block 1 (.seq (.reg true [⟨.mv (.s 0), none⟩, ⟨.mv (.s 4), none⟩, ⟨.ia 9 (.l 0) (.l 1), none⟩, ⟨.ld 9 true (.l 2), none⟩, ⟨.mv (.s 1), none⟩, ⟨.mv (.s 4), none⟩, ⟨.ia 9 (.l 4) (.l 5), none⟩, ⟨.ld 9 true (.l 6), none⟩, ⟨.call 311 [(.l 3), (.l 7)] [[.a, .a, .a, .a, .a, .a, .a, .a, .sl 1 [.a]], [.a, .a, .a, .a, .a, .a, .a, .a, .sl 1 [.a]]], none⟩, ⟨.un .not (.l 8), none⟩] [(6, 9)]) (.cond (.s 6) (.seq (.reg false [⟨.mv (.c (.bool false)), none⟩] [(2, 0)]) .ret) .skip))) (.reg false [⟨.mv (.s 4), none⟩, ⟨.bin .add (.l 0) (.c (.int .i64 1)), none⟩, ⟨.mv (.l 1), none⟩] [(4, 2)])))))) (.seq (.reg false [⟨.mv (.c (.bool true)), none⟩] [(2, 0)]) .ret)))) }
theorem w310 {Γ : Ctx} (hm : (Γ.at 0).Mono) (h311 : C311 (Γ.at 0)) (a : List Lkd) (b : List Lkd)  : wpA (Γ.at 0) ref33_SameLines.body (Res ref33_SameLines (.bool (decide (a = b))) : Ex → List Ent → St → Prop) (env0 ref33_SameLines [.sl 9 (a.map Lkd.D), .sl 9 (b.map Lkd.D)]) ⟨0, []⟩ := by
  show wpA _ _ _ [⟨true, .sl 9 (a.map Lkd.D)⟩, ⟨true, .sl 9 (b.map Lkd.D)⟩, .un, .un, .un, .un, .un] ⟨0, []⟩
  refine wp_regseq ?_; refine r_mv ?_; refine reg_end (env' := [_, _, ⟨_, (.bool _)⟩, _, _, _, _]) ?_; refine wp_assoc ?_; refine wp_regseq ?_; refine r_mv ?_
  refine r_lenM fun hlR1_1 => ?_; replace hlR1_1 := hlR1_1 rfl rfl
  refine r_mv ?_
  refine r_lenM fun hlR1_3 => ?_; replace hlR1_3 := hlR1_3 rfl rfl
  refine r_neqI ?_; refine reg_end (env' := [_, _, _, ⟨_, (.bool _)⟩, _, _, _]) ?_
  refine wp_condseq (fun hc0 => ?_) (fun hc0 => ?_)
  · try simp only [b0, b1, b2, b3, b4, b5, b6, b7, b8, b9, b10, b11] at hc0
    refine wp_assoc ?_; refine wp_regseq ?_; refine r_mv ?_; refine reg_end (env' := [_, _, ⟨_, (.bool _)⟩, _, _, _, _]) ?_; refine wp_retseq ?_
    refine res_of trivial q2 q3 (Eq.trans q7 (congrArg D.bool ?_))
    symm; rw [decide_eq_false_iff_not]; rintro rfl; simp at hc0
  · try simp only [b0, b1, b2, b3, b4, b5, b6, b7, b8, b9, b10, b11] at hc0
    refine wp_skipseq ?_; refine wp_assoc ?_; refine wp_regseq ?_; refine r_mv ?_; refine reg_end (env' := [_, _, _, _, ⟨_, (.int _ _)⟩, _, _]) ?_
    have hb := same_idx (show a.length = b.length by omega)
    refine wp_for hm (ι := Nat) (fun i => [⟨true, .sl 9 (a.map Lkd.D)⟩, ⟨true, .sl 9 (b.map Lkd.D)⟩, .un, .un, ⟨true, .int .i64 (i : Nat)⟩, .un, .un]) (fun i => []) 7 (fun i => i ≤ a.length ∧ decide (a = b) = allF (fun i => decide (a[i]! = b[i]!)) i a.length) (fun i => a.length - i) 0 ⟨by omega, hb⟩ (Ghost.to [] q7 q7 q4 q1) ?_
    rintro i ⟨hi, hr⟩
    refine wp_assoc ?_; refine wp_regseq ?_; refine r_mv ?_; refine r_mv ?_
    refine r_lenM fun hlR4_2 => ?_; replace hlR4_2 := hlR4_2 rfl rfl
    refine r_lssI ?_; refine reg_end (env' := [_, _, _, _, _, ⟨_, (.bool _)⟩, _]) ?_
    refine wp_condseq (fun hc1 => ?_) (fun hc1 => ?_)
    · try simp only [b0, b1, b2, b3, b4, b5, b6, b7, b8, b9, b10, b11] at hc1
      refine wp_skipseq ?_
      refine wp_blockseq ?_ hm
      refine wp_regseq ?_; refine r_mv ?_; refine r_mv ?_
      first | refine r_iaM _ ?_ | refine r_iaMT ?_
      first | refine r_ldR (v := (Lkd.D _)) ?_ | refine r_ldQ (v := (Lkd.D _)) ?_
      refine r_mv ?_; refine r_mv ?_
      first | refine r_iaM _ ?_ | refine r_iaMT ?_
      first | refine r_ldR (v := (Lkd.D _)) ?_ | refine r_ldQ (v := (Lkd.D _)) ?_
      refine r_call (hc := h311 _ _) ?_; refine r_not ?_; refine reg_end (env' := [_, _, _, _, _, _, ⟨_, (.bool _)⟩]) ?_
      refine wp_cond (fun hc2 => ?_) (fun hc2 => ?_)
      · simp only [Bool.not_eq_true', decide_eq_false_iff_not] at hc2
        refine wp_regseq ?_; refine r_mv ?_; refine reg_end (env' := [_, _, ⟨_, (.bool _)⟩, _, _, _, _]) ?_; refine wp_ret ?_; refine BQ.ret ?_; refine LQ.ret ?_
        refine res_of trivial q2 q3 (Eq.trans q7 (congrArg D.bool ?_))
        rw [hr, allF_lt (by omega), decide_eq_false hc2]; rfl
      · simp only [Bool.not_eq_false', decide_eq_true_eq] at hc2
        refine wp_skip ?_; refine BQ.normal ?_; refine wp_reg ?_; refine r_mv ?_; refine r_add64 ?_; refine r_mv ?_; refine reg_fin (env' := [_, _, _, _, ⟨_, (.int _ _)⟩, _, _]) ?_; refine LQ.normal ?_
        exact ⟨i + 1, ⟨by omega, by rw [hr, allF_lt (by omega), decide_eq_true hc2]; rfl⟩, by omega, (Ghost.to [] q7 q7 q4 q1)⟩
    · try simp only [b0, b1, b2, b3, b4, b5, b6, b7, b8, b9, b10, b11] at hc1
      refine wp_exitseq ?_; refine LQ.out ?_; refine wp_regseq ?_; refine r_mv ?_; refine reg_end (env' := [_, _, ⟨_, (.bool _)⟩, _, _, _, _]) ?_; refine wp_ret ?_
      refine res_of trivial q2 q3 (Eq.trans q7 (congrArg D.bool ?_))
      rw [hr, allF_ge (by omega)]
def C310 (Γ : Ctx) : Prop := ∀ (a : List Lkd) (b : List Lkd), Γ.pre 310 [.sl 9 (a.map Lkd.D), .sl 9 (b.map Lkd.D)] ∧ Γ.val 310 [.sl 9 (a.map Lkd.D), .sl 9 (b.map Lkd.D)] = .bool (decide (a = b))
/-- linchpin/linchpinref33.Same -/
def ref33_Same : AFunc := { np := 2, ns := 5, res := [⟨2, none⟩], rsh := [[.a]], body := (.seq (.reg false [⟨.box 4 (.s 0), none⟩, ⟨.box 4 (.s 1), none⟩, ⟨.mv (.c (.bool false)), none⟩] [(3, 0), (4, 1), (2, 2)]) (.seq (.reg false [⟨.fa 0 (.s 3), none⟩, ⟨.ld 3 true (.l 0), none⟩, ⟨.fa 0 (.s 4), none⟩, ⟨.ld 3 true (.l 2), none⟩, ⟨.eqA false true [.s, .s, .s] (.l 1) (.l 3), none⟩, ⟨.mv (.l 4), none⟩, ⟨.fa 3 (.s 3), some (5, true)⟩, ⟨.ld 1 false (.l 6), some (5, true)⟩, ⟨.fa 3 (.s 4), some (5, true)⟩, ⟨.ld 1 false (.l 8), some (5, true)⟩, ⟨.call 310 [(.l 7), (.l 9)] [[.sl 9 [.a, .a, .a, .a, .a, .a, .a, .a, .sl 1 [.a]]], [.sl 9 [.a, .a, .a, .a, .a, .a, .a, .a, .sl 1 [.a]]]], some (5, true)⟩, ⟨.pick (.l 5) (.l 10) (.c (.bool false)), none⟩, ⟨.mv (.l 11), none⟩] [(2, 12)]) .ret)) }
theorem w117 {Γ : Ctx} (hm : (Γ.at 0).Mono) (h310 : C310 (Γ.at 0)) (a : Lck) (b : Lck)  : wpA (Γ.at 0) ref33_Same.body (Res ref33_Same (.bool (decide (a = b))) : Ex → List Ent → St → Prop) (env0 ref33_Same [Lck.D a, Lck.D b]) ⟨0, []⟩ := by
  show wpA _ _ _ [⟨true, Lck.D a⟩, ⟨true, Lck.D b⟩, .un, .un, .un] ⟨0, []⟩
  refine wp_regseq ?_; refine r_box ?_; refine r_box ?_; refine r_mv ?_; refine reg_end (env' := [_, _, ⟨_, (.bool _)⟩, ⟨_, _⟩, ⟨_, _⟩]) ?_; refine wp_regseq ?_; refine r_faP ?_; refine r_ldF (v := (Env.D _)) ?_; refine r_faP ?_; refine r_ldF (v := (Env.D _)) ?_; refine r_eqP (hb := Env.eq _ _) ?_; refine r_mv ?_; refine r_faP ?_
  first | refine r_ldF (v := .sl _ _) ?_ | refine r_ldF (v := .own _ _ _ _) ?_ | refine r_ldF (v := .nils) ?_
  refine r_faP ?_
  first | refine r_ldF (v := .sl _ _) ?_ | refine r_ldF (v := .own _ _ _ _) ?_ | refine r_ldF (v := .nils) ?_
  refine r_call (hc := h310 _ _) ?_; refine r_and ?_; refine r_mv ?_; refine reg_end (env' := [_, _, ⟨_, (.bool _)⟩, _, _]) ?_; refine wp_ret ?_
  refine res_of trivial q2 q3 (Eq.trans q7 (congrArg D.bool ?_))
  obtain ⟨a1, a2⟩ := a
  obtain ⟨b1, b2⟩ := b
  simp only [Lck.mk.injEq, Bool.decide_and]
def C117 (Γ : Ctx) : Prop := ∀ (a : Lck) (b : Lck), Γ.pre 117 [Lck.D a, Lck.D b] ∧ Γ.val 117 [Lck.D a, Lck.D b] = .bool (decide (a = b))
/-- linchpin/linchpinref33.Find -/
def ref33_Find : AFunc := { np := 2, ns := 7, res := [⟨2, none⟩], rsh := [[.a]], body := (.seq (.reg false [⟨.box 4 (.s 0), none⟩, ⟨.mv (.c (.int .i64 0)), none⟩] [(4, 0), (2, 1)]) (.seq (.seq (.reg false [⟨.mv (.c (.int .i64 0)), none⟩] [(3, 0)]) (.block 0 (.loop (.seq (.seq (.reg false [⟨.mv (.s 3), none⟩, ⟨.fa 3 (.s 4), none⟩, ⟨.ld 1 false (.l 1), none⟩, ⟨.len (.l 2), none⟩, ⟨.bin .lss (.l 0) (.l 3), none⟩] [(5, 4)]) (.cond (.s 5) .skip (.exit 0))) (.seq (.block 1 (.seq (.reg false [⟨.fa 3 (.s 4), none⟩, ⟨.ld 1 false (.l 0), none⟩, ⟨.mv (.s 3), none⟩, ⟨.ia 9 (.l 1) (.l 2), none⟩, ⟨.fa 0 (.l 3), none⟩, ⟨.ld 1 false (.l 4), none⟩, ⟨.mv (.s 1), none⟩, ⟨.bin .eql (.l 5) (.l 6), none⟩] [(6, 7)]) (.cond (.s 6) (.seq (.reg false [⟨.mv (.s 3), none⟩, ⟨.mv (.l 0), none⟩] [(2, 1)]) .ret) .skip))) (.reg false [⟨.mv (.s 3), none⟩, ⟨.bin .add (.l 0) (.c (.int .i64 1)), none⟩, ⟨.mv (.l 1), none⟩] [(3, 2)])))))) (.seq (.reg false [⟨.mv (.c (.int .i64 (-1))), none⟩] [(2, 0)]) .ret))) }
theorem w190 {Γ : Ctx} (hm : (Γ.at 0).Mono)  (l : Lck) (nm : Str)  : wpA (Γ.at 0) ref33_Find.body (Res ref33_Find (.int .i64 (findI l.lines nm 0)) : Ex → List Ent → St → Prop) (env0 ref33_Find [Lck.D l, .str nm]) ⟨0, []⟩ := by
  show wpA _ _ _ [⟨true, Lck.D l⟩, ⟨true, .str nm⟩, .un, .un, .un, .un, .un] ⟨0, []⟩
  refine wp_regseq ?_; refine r_box ?_; refine r_mv ?_; refine reg_end (env' := [_, _, ⟨_, (.int _ _)⟩, _, ⟨_, _⟩, _, _]) ?_; refine wp_assoc ?_; refine wp_regseq ?_; refine r_mv ?_; refine reg_end (env' := [_, _, _, ⟨_, (.int _ _)⟩, _, _, _]) ?_
  refine wp_for hm (ι := Nat) (fun i => [.un, ⟨true, .str nm⟩, .un, ⟨true, .int .i64 (i : Nat)⟩, ⟨true, .ptr 0 4 0 0⟩, .un, .un]) (fun i => [(0, .buf 4 [Lck.D l])]) 3 (fun i => i ≤ l.lines.length ∧ findI l.lines nm 0 = findI l.lines nm i) (fun i => l.lines.length - i) 0 ⟨by omega, rfl⟩ (Ghost.to [(0, 0)] q7 q7 q4 q1) ?_
  rintro i ⟨hi, hr⟩
  refine wp_assoc ?_; refine wp_regseq ?_; refine r_mv ?_; refine r_faP ?_
  first | refine r_ldF (v := .sl _ _) ?_ | refine r_ldF (v := .own _ _ _ _) ?_ | refine r_ldF (v := .nils) ?_
  refine r_lenM fun hlR2_3 => ?_; replace hlR2_3 := hlR2_3 rfl rfl
  refine r_lssI ?_; refine reg_end (env' := [_, _, _, _, _, ⟨_, (.bool _)⟩, _]) ?_
  refine wp_condseq (fun hc0 => ?_) (fun hc0 => ?_)
  · try simp only [b0, b1, b2, b3, b4, b5, b6, b7, b8, b9, b10, b11] at hc0
    refine wp_skipseq ?_
    refine wp_blockseq ?_ hm
    refine wp_regseq ?_; refine r_faP ?_
    first | refine r_ldF (v := .sl _ _) ?_ | refine r_ldF (v := .own _ _ _ _) ?_ | refine r_ldF (v := .nils) ?_
    refine r_mv ?_
    first | refine r_iaM _ ?_ | refine r_iaMT ?_
    refine r_faR ?_
    first | refine r_ldR (v := (.str _)) ?_ | refine r_ldQ (v := (.str _)) ?_
    refine r_mv ?_; refine r_eqlS ?_; refine reg_end (env' := [_, _, _, _, _, _, ⟨_, (.bool _)⟩]) ?_
    refine wp_cond (fun hc1 => ?_) (fun hc1 => ?_)
    · try simp only [b0, b1, b2, b3, b4, b5, b6, b7, b8, b9, b10, b11] at hc1
      refine wp_regseq ?_; refine r_mv ?_; refine r_mv ?_; refine reg_end (env' := [_, _, ⟨_, (.int _ _)⟩, _, _, _, _]) ?_; refine wp_ret ?_; refine BQ.ret ?_; refine LQ.ret ?_
      refine res_of trivial q2 q3 (Eq.trans q7 (congrArg (D.int .i64) ?_))
      rw [hr, findI_eq (by omega) hc1]
    · try simp only [b0, b1, b2, b3, b4, b5, b6, b7, b8, b9, b10, b11] at hc1
      refine wp_skip ?_; refine BQ.normal ?_; refine wp_reg ?_; refine r_mv ?_; refine r_add64 ?_; refine r_mv ?_; refine reg_fin (env' := [_, _, _, ⟨_, (.int _ _)⟩, _, _, _]) ?_; refine LQ.normal ?_
      exact ⟨i + 1, ⟨by omega, by rw [hr, findI_ne (by omega) hc1]⟩, by omega, (Ghost.to [(0, 0)] q7 q7 q4 q1)⟩
  · try simp only [b0, b1, b2, b3, b4, b5, b6, b7, b8, b9, b10, b11] at hc0
    refine wp_exitseq ?_; refine LQ.out ?_; refine wp_regseq ?_; refine r_mv ?_; refine reg_end (env' := [_, _, ⟨_, (.int _ _)⟩, _, _, _, _]) ?_; refine wp_ret ?_
    refine res_of trivial q2 q3 (Eq.trans q7 (congrArg (D.int .i64) ?_))
    rw [hr, findI_end (by omega)]
def C190 (Γ : Ctx) : Prop := ∀ (l : Lck) (nm : Str), Γ.pre 190 [Lck.D l, .str nm] ∧ Γ.val 190 [Lck.D l, .str nm] = .int .i64 (findI l.lines nm 0)
end Go.Abs
end
section
namespace Go.Abs
open Go
/-- linchpin/ident.Word -/
def ident_Word : AFunc := { np := 1, ns := 8, res := [⟨1, none⟩], rsh := [[.a]], body := (.seq (.reg false [⟨.mv (.c (.bool false)), none⟩] [(1, 0)]) (.seq (.seq (.reg false [⟨.mv (.s 0), none⟩, ⟨.bin .eql (.l 0) (.c (.str [])), none⟩, ⟨.mv (.l 1), none⟩, ⟨.mv (.s 0), some (2, false)⟩, ⟨.lenS (.l 3), some (2, false)⟩, ⟨.bin .gtr (.l 4) (.c (.int .i64 12)), some (2, false)⟩, ⟨.pick (.l 2) (.c (.bool true)) (.l 5), none⟩] [(2, 6)]) (.cond (.s 2) (.seq (.reg false [⟨.mv (.c (.bool false)), none⟩] [(1, 0)]) .ret) .skip)) (.seq (.seq (.reg false [⟨.mv (.s 0), none⟩, ⟨.rng (.l 0), none⟩] [(3, 1)]) (.block 0 (.loop (.seq (.reg false [⟨.nxt (.s 3), none⟩, ⟨.ext (.l 0) 0, none⟩] [(5, 0), (4, 1)]) (.seq (.cond (.s 4) .skip (.exit 0)) (.block 1 (.seq (.reg false [⟨.ext (.s 5) 2, none⟩, ⟨.mv (.l 0), none⟩] [(6, 1)]) (.block 2 (.seq (.seq (.reg false [⟨.mv (.s 6), none⟩, ⟨.bin .geq (.l 0) (.c (.int .i32 97)), none⟩, ⟨.mv (.l 1), none⟩, ⟨.mv (.s 6), some (2, true)⟩, ⟨.bin .leq (.l 3) (.c (.int .i32 122)), some (2, true)⟩, ⟨.pick (.l 2) (.l 4) (.c (.bool false)), none⟩, ⟨.mv (.l 5), none⟩] [(7, 6)]) (.cond (.s 7) .skip (.seq (.reg false [⟨.mv (.s 6), none⟩, ⟨.bin .geq (.l 0) (.c (.int .i32 48)), none⟩, ⟨.mv (.l 1), none⟩, ⟨.mv (.s 6), some (2, true)⟩, ⟨.bin .leq (.l 3) (.c (.int .i32 57)), some (2, true)⟩, ⟨.pick (.l 2) (.l 4) (.c (.bool false)), none⟩, ⟨.mv (.l 5), none⟩] [(7, 6)]) (.cond (.s 7) .skip (.reg false [⟨.mv (.s 6), none⟩, ⟨.bin .eql (.l 0) (.c (.int .i32 95)), none⟩, ⟨.mv (.l 1), none⟩] [(7, 2)]))))) (.cond (.s 7) .skip (.seq (.reg false [⟨.mv (.c (.bool false)), none⟩] [(1, 0)]) .ret))))))))))) (.seq (.reg false [⟨.mv (.c (.bool true)), none⟩] [(1, 0)]) .ret)))) }
theorem w349 {Γ : Ctx} (hm : (Γ.at 0).Mono)  (s : Str)  : wpA (Γ.at 0) ident_Word.body (Res ident_Word (.bool (wordB s)) : Ex → List Ent → St → Prop) (env0 ident_Word [.str s]) ⟨0, []⟩ := by
  show wpA _ _ _ [⟨true, .str s⟩, .un, .un, .un, .un, .un, .un, .un] ⟨0, []⟩
  refine wp_regseq ?_; refine r_mv ?_; refine reg_end (env' := [_, ⟨_, (.bool _)⟩, _, _, _, _, _, _]) ?_; refine wp_assoc ?_; refine wp_regseq ?_; refine r_mv ?_; refine r_eqlS ?_; refine r_mv ?_; refine r_mv ?_
  refine r_lenS fun _ => ?_
  refine r_gtrI ?_; refine r_or ?_; refine reg_end (env' := [_, _, ⟨_, (.bool _)⟩, _, _, _, _, _]) ?_
  refine wp_condseq (fun hc0 => ?_) (fun hc0 => ?_)
  · try simp only [b0, b1, b2, b3, b4, b5, b6, b7, b8, b9, b10, b11] at hc0
    refine wp_assoc ?_; refine wp_regseq ?_; refine r_mv ?_; refine reg_end (env' := [_, ⟨_, (.bool _)⟩, _, _, _, _, _, _]) ?_; refine wp_retseq ?_
    refine res_of trivial q2 q3 (Eq.trans q7 (congrArg D.bool ?_))
    symm; simp only [wordB, Bool.and_eq_false_iff, decide_eq_false_iff_not]; rcases hc0 with h | h
    · subst h; exact Or.inl (Or.inl (by simp))
    · exact Or.inl (by omega)
  · try simp only [b0, b1, b2, b3, b4, b5, b6, b7, b8, b9, b10, b11] at hc0
    refine wp_skipseq ?_; refine wp_assoc ?_; refine wp_regseq ?_; refine r_mv ?_; refine r_rng ?_; refine reg_end (env' := [_, _, _, ⟨_, _⟩, _, _, _, _]) ?_
    have hP : wordB s = allF (fun i => wch (at8 s i)) 0 s.length := by
      have := List.length_pos_iff.2 hc0.1
      simp only [wordB]; rw [decide_eq_true (by omega), decide_eq_true (by omega)]; rfl
    refine wp_for hm (ι := Nat) (fun i => [⟨true, .str s⟩, .un, .un, ⟨true, .it 9⟩, .un, .un, .un, .un]) (fun i => [(9, .iter s i)]) 10 (fun i => i ≤ s.length ∧ wordB s = allF (fun i => wch (at8 s i)) i s.length) (fun i => s.length - i) 0 ⟨by omega, hP⟩ (Ghost.to [(9, 9)] q7 q7 q4 q1) ?_
    rintro i ⟨hi, hr⟩
    refine wp_regseq ?_
    by_cases hnx : i < s.length
    · obtain ⟨c, w, hdec, hw, hcw⟩ := dec_spec s i hnx
      refine r_nxt1 c w (hp := hnx) (hc := hdec) ?_; refine r_ext (.bool _) ?_; refine reg_end (env' := [_, _, _, _, ⟨_, (.bool _)⟩, ⟨_, _⟩, _, _]) ?_
      refine wp_condseq (t := true) (fun _ => ?_) (fun h => by cases h)
      refine wp_skipseq ?_
      refine wp_blockL ?_ hm
      refine wp_regseq ?_; refine r_ext (.int _ _) ?_; refine r_mv ?_; refine reg_end (env' := [_, _, _, _, _, _, ⟨_, (.int _ _)⟩, _]) ?_
      refine wp_blockL ?_ hm
      refine wp_assoc ?_; refine wp_regseq ?_; refine r_mv ?_; refine r_geqI ?_; refine r_mv ?_; refine r_mv ?_; refine r_leqI ?_; refine r_and ?_; refine r_mv ?_; refine reg_end (env' := [_, _, _, _, _, _, _, ⟨_, (.bool _)⟩]) ?_
      refine wp_condseq (fun hc2 => ?_) (fun hc2 => ?_)
      · try simp only [b0, b1, b2, b3, b4, b5, b6, b7, b8, b9, b10, b11] at hc2
        refine wp_skipseq ?_
        refine wp_cond (fun hc4 => ?_) (fun hc4 => ?_)
        · try simp only [b0, b1, b2, b3, b4, b5, b6, b7, b8, b9, b10, b11] at hc4
          refine wp_skip ?_
          refine BQ0.normal ?_
          refine BQ0.normal ?_
          refine LQ.normal ?_
          obtain ⟨rfl, hat, -⟩ : w = 1 ∧ (c : Int) = at8 s i ∧ c < 128 := by
            rcases hcw with h | h
            · exact h
            · omega
          have hz : wch (at8 s i) = true := by
            simp only [wch, lowB, digitB, Bool.or_eq_true, Bool.and_eq_true, decide_eq_true_eq]; omega
          exact ⟨i + 1, ⟨by omega, by rw [hr, allF_lt hnx, hz]; rfl⟩, by omega, (Ghost.to [(9, 9)] q7 q7 q4 q1)⟩
        · try simp only [b0, b1, b2, b3, b4, b5, b6, b7, b8, b9, b10, b11] at hc4
          refine wp_regseq ?_; refine r_mv ?_; refine reg_end (env' := [_, ⟨_, (.bool _)⟩, _, _, _, _, _, _]) ?_; refine wp_ret ?_
          refine BQ0.ret ?_
          refine BQ0.ret ?_
          refine LQ.ret ?_
          refine res_of trivial q2 q3 (Eq.trans q7 (congrArg D.bool ?_))
          first
            | (exfalso; omega)
            | (rw [hr, allF_ge (by omega)]; done)
            | (
              have hz : wch (at8 s i) = false := by
                rcases hcw with ⟨_, h, _⟩ | ⟨_, h⟩ <;> (simp only [wch, lowB, digitB, Bool.or_eq_false_iff, Bool.and_eq_false_iff, decide_eq_false_iff_not]; omega)
              rw [hr, allF_lt hnx, hz]; rfl)
      · try simp only [b0, b1, b2, b3, b4, b5, b6, b7, b8, b9, b10, b11] at hc2
        refine wp_assoc ?_; refine wp_regseq ?_; refine r_mv ?_; refine r_geqI ?_; refine r_mv ?_; refine r_mv ?_; refine r_leqI ?_; refine r_and ?_; refine r_mv ?_; refine reg_end (env' := [_, _, _, _, _, _, _, ⟨_, (.bool _)⟩]) ?_
        refine wp_condseq (fun hc3 => ?_) (fun hc3 => ?_)
        · try simp only [b0, b1, b2, b3, b4, b5, b6, b7, b8, b9, b10, b11] at hc3
          refine wp_skipseq ?_
          refine wp_cond (fun hc4 => ?_) (fun hc4 => ?_)
          · try simp only [b0, b1, b2, b3, b4, b5, b6, b7, b8, b9, b10, b11] at hc4
            refine wp_skip ?_
            refine BQ0.normal ?_
            refine BQ0.normal ?_
            refine LQ.normal ?_
            obtain ⟨rfl, hat, -⟩ : w = 1 ∧ (c : Int) = at8 s i ∧ c < 128 := by
              rcases hcw with h | h
              · exact h
              · omega
            have hz : wch (at8 s i) = true := by
              simp only [wch, lowB, digitB, Bool.or_eq_true, Bool.and_eq_true, decide_eq_true_eq]; omega
            exact ⟨i + 1, ⟨by omega, by rw [hr, allF_lt hnx, hz]; rfl⟩, by omega, (Ghost.to [(9, 9)] q7 q7 q4 q1)⟩
          · try simp only [b0, b1, b2, b3, b4, b5, b6, b7, b8, b9, b10, b11] at hc4
            refine wp_regseq ?_; refine r_mv ?_; refine reg_end (env' := [_, ⟨_, (.bool _)⟩, _, _, _, _, _, _]) ?_; refine wp_ret ?_
            refine BQ0.ret ?_
            refine BQ0.ret ?_
            refine LQ.ret ?_
            refine res_of trivial q2 q3 (Eq.trans q7 (congrArg D.bool ?_))
            first
              | (exfalso; omega)
              | (rw [hr, allF_ge (by omega)]; done)
              | (
                have hz : wch (at8 s i) = false := by
                  rcases hcw with ⟨_, h, _⟩ | ⟨_, h⟩ <;> (simp only [wch, lowB, digitB, Bool.or_eq_false_iff, Bool.and_eq_false_iff, decide_eq_false_iff_not]; omega)
                rw [hr, allF_lt hnx, hz]; rfl)
        · try simp only [b0, b1, b2, b3, b4, b5, b6, b7, b8, b9, b10, b11] at hc3
          refine wp_regseq ?_; refine r_mv ?_; refine r_eqlI ?_; refine r_mv ?_; refine reg_end (env' := [_, _, _, _, _, _, _, ⟨_, (.bool _)⟩]) ?_
          refine wp_cond (fun hc4 => ?_) (fun hc4 => ?_)
          · try simp only [b0, b1, b2, b3, b4, b5, b6, b7, b8, b9, b10, b11] at hc4
            refine wp_skip ?_
            refine BQ0.normal ?_
            refine BQ0.normal ?_
            refine LQ.normal ?_
            obtain ⟨rfl, hat, -⟩ : w = 1 ∧ (c : Int) = at8 s i ∧ c < 128 := by
              rcases hcw with h | h
              · exact h
              · omega
            have hz : wch (at8 s i) = true := by
              simp only [wch, lowB, digitB, Bool.or_eq_true, Bool.and_eq_true, decide_eq_true_eq]; omega
            exact ⟨i + 1, ⟨by omega, by rw [hr, allF_lt hnx, hz]; rfl⟩, by omega, (Ghost.to [(9, 9)] q7 q7 q4 q1)⟩
          · try simp only [b0, b1, b2, b3, b4, b5, b6, b7, b8, b9, b10, b11] at hc4
            refine wp_regseq ?_; refine r_mv ?_; refine reg_end (env' := [_, ⟨_, (.bool _)⟩, _, _, _, _, _, _]) ?_; refine wp_ret ?_
            refine BQ0.ret ?_
            refine BQ0.ret ?_
            refine LQ.ret ?_
            refine res_of trivial q2 q3 (Eq.trans q7 (congrArg D.bool ?_))
            first
              | (exfalso; omega)
              | (rw [hr, allF_ge (by omega)]; done)
              | (
                have hz : wch (at8 s i) = false := by
                  rcases hcw with ⟨_, h, _⟩ | ⟨_, h⟩ <;> (simp only [wch, lowB, digitB, Bool.or_eq_false_iff, Bool.and_eq_false_iff, decide_eq_false_iff_not]; omega)
                rw [hr, allF_lt hnx, hz]; rfl)
    · refine r_nxt0 (hp := hnx) ?_; refine r_ext (.bool _) ?_; refine reg_end (env' := [_, _, _, _, ⟨_, (.bool _)⟩, ⟨_, _⟩, _, _]) ?_
      refine wp_condseq (t := false) (fun h => by cases h) (fun _ => ?_)
      refine wp_exitseq ?_; refine LQ.out ?_; refine wp_regseq ?_; refine r_mv ?_; refine reg_end (env' := [_, ⟨_, (.bool _)⟩, _, _, _, _, _, _]) ?_; refine wp_ret ?_
      refine res_of trivial q2 q3 (Eq.trans q7 (congrArg D.bool ?_))
      first
        | (exfalso; omega)
        | (rw [hr, allF_ge (by omega)]; done)
        | (
          have hz : wch (at8 s i) = false := by
            rcases hcw with ⟨_, h, _⟩ | ⟨_, h⟩ <;> (simp only [wch, lowB, digitB, Bool.or_eq_false_iff, Bool.and_eq_false_iff, decide_eq_false_iff_not]; omega)
          rw [hr, allF_lt hnx, hz]; rfl)
def C349 (Γ : Ctx) : Prop := ∀ (s : Str), Γ.pre 349 [.str s] ∧ Γ.val 349 [.str s] = .bool (wordB s)
/-- linchpin/ident.Name -/
def ident_Name : AFunc := { np := 1, ns := 13, res := [⟨1, none⟩], rsh := [[.a]], body := (.seq (.reg false [⟨.mv (.c (.bool false)), none⟩] [(1, 0)]) (.seq (.seq (.reg false [⟨.mv (.s 0), none⟩, ⟨.bin .eql (.l 0) (.c (.str [])), none⟩, ⟨.mv (.l 1), none⟩, ⟨.mv (.s 0), some (2, false)⟩, ⟨.lenS (.l 3), some (2, false)⟩, ⟨.bin .gtr (.l 4) (.c (.int .i64 16)), some (2, false)⟩, ⟨.pick (.l 2) (.c (.bool true)) (.l 5), none⟩] [(2, 6)]) (.cond (.s 2) (.seq (.reg false [⟨.mv (.c (.bool false)), none⟩] [(1, 0)]) .ret) .skip)) (.seq (.seq (.reg false [⟨.mv (.s 0), none⟩, ⟨.rng (.l 0), none⟩] [(3, 1)]) (.block 0 (.loop (.seq (.reg false [⟨.nxt (.s 3), none⟩, ⟨.ext (.l 0) 0, none⟩] [(5, 0), (4, 1)]) (.seq (.cond (.s 4) .skip (.exit 0)) (.block 1 (.seq (.reg false [⟨.ext (.s 5) 1, none⟩, ⟨.ext (.s 5) 2, none⟩, ⟨.mv (.l 0), none⟩, ⟨.mv (.l 1), none⟩] [(9, 2), (6, 3)]) (.block 2 (.seq (.reg false [⟨.mv (.s 6), none⟩, ⟨.bin .geq (.l 0) (.c (.int .i32 97)), none⟩, ⟨.mv (.l 1), none⟩, ⟨.mv (.s 6), some (2, true)⟩, ⟨.bin .leq (.l 3) (.c (.int .i32 122)), some (2, true)⟩, ⟨.pick (.l 2) (.l 4) (.c (.bool false)), none⟩, ⟨.mv (.l 5), none⟩] [(7, 6)]) (.cond (.s 7) .skip (.seq (.reg false [⟨.mv (.s 6), none⟩, ⟨.bin .geq (.l 0) (.c (.int .i32 48)), none⟩, ⟨.mv (.l 1), none⟩, ⟨.mv (.s 6), some (2, true)⟩, ⟨.bin .leq (.l 3) (.c (.int .i32 57)), some (2, true)⟩, ⟨.pick (.l 2) (.l 4) (.c (.bool false)), none⟩, ⟨.mv (.l 5), none⟩] [(8, 6)]) (.cond (.s 8) (.seq (.reg false [⟨.mv (.s 9), none⟩, ⟨.bin .eql (.l 0) (.c (.int .i64 0)), none⟩] [(10, 1)]) (.cond (.s 10) (.seq (.reg false [⟨.mv (.c (.bool false)), none⟩] [(1, 0)]) .ret) .skip)) (.seq (.reg false [⟨.mv (.s 6), none⟩, ⟨.bin .eql (.l 0) (.c (.int .i32 45)), none⟩, ⟨.mv (.l 1), none⟩] [(11, 2)]) (.cond (.s 11) (.seq (.reg false [⟨.mv (.s 9), none⟩, ⟨.bin .eql (.l 0) (.c (.int .i64 0)), none⟩, ⟨.mv (.l 1), none⟩, ⟨.mv (.s 9), some (2, false)⟩, ⟨.mv (.s 0), some (2, false)⟩, ⟨.lenS (.l 4), some (2, false)⟩, ⟨.bin .sub (.l 5) (.c (.int .i64 1)), some (2, false)⟩, ⟨.bin .eql (.l 3) (.l 6), some (2, false)⟩, ⟨.pick (.l 2) (.c (.bool true)) (.l 7), none⟩, ⟨.mv (.l 8), none⟩, ⟨.mv (.s 0), some (9, false)⟩, ⟨.mv (.s 9), some (9, false)⟩, ⟨.bin .sub (.l 11) (.c (.int .i64 1)), some (9, false)⟩, ⟨.ixS (.l 10) (.l 12), some (9, false)⟩, ⟨.bin .eql (.l 13) (.c (.int .u8 45)), some (9, false)⟩, ⟨.pick (.l 9) (.c (.bool true)) (.l 14), none⟩] [(12, 15)]) (.cond (.s 12) (.seq (.reg false [⟨.mv (.c (.bool false)), none⟩] [(1, 0)]) .ret) .skip)) (.seq (.reg false [⟨.mv (.c (.bool false)), none⟩] [(1, 0)]) .ret))))))))))))))) (.seq (.reg false [⟨.mv (.c (.bool true)), none⟩] [(1, 0)]) .ret)))) }
theorem w208 {Γ : Ctx} (hm : (Γ.at 0).Mono)  (s : Str)  : wpA (Γ.at 0) ident_Name.body (Res ident_Name (.bool (nameB s)) : Ex → List Ent → St → Prop) (env0 ident_Name [.str s]) ⟨0, []⟩ := by
  show wpA _ _ _ [⟨true, .str s⟩, .un, .un, .un, .un, .un, .un, .un, .un, .un, .un, .un, .un] ⟨0, []⟩
  refine wp_regseq ?_; refine r_mv ?_; refine reg_end (env' := [_, ⟨_, (.bool _)⟩, _, _, _, _, _, _, _, _, _, _, _]) ?_; refine wp_assoc ?_; refine wp_regseq ?_; refine r_mv ?_; refine r_eqlS ?_; refine r_mv ?_; refine r_mv ?_
  refine r_lenS fun _ => ?_
  refine r_gtrI ?_; refine r_or ?_; refine reg_end (env' := [_, _, ⟨_, (.bool _)⟩, _, _, _, _, _, _, _, _, _, _]) ?_
  refine wp_condseq (fun hc0 => ?_) (fun hc0 => ?_)
  · try simp only [b0, b1, b2, b3, b4, b5, b6, b7, b8, b9, b10, b11] at hc0
    refine wp_assoc ?_; refine wp_regseq ?_; refine r_mv ?_; refine reg_end (env' := [_, ⟨_, (.bool _)⟩, _, _, _, _, _, _, _, _, _, _, _]) ?_; refine wp_retseq ?_
    refine res_of trivial q2 q3 (Eq.trans q7 (congrArg D.bool ?_))
    symm; simp only [nameB]; rcases hc0 with h | h
    · subst h; simp
    · rw [decide_eq_false (by omega : ¬ s.length ≤ 16)]; simp
  · try simp only [b0, b1, b2, b3, b4, b5, b6, b7, b8, b9, b10, b11] at hc0
    refine wp_skipseq ?_; refine wp_assoc ?_; refine wp_regseq ?_; refine r_mv ?_; refine r_rng ?_; refine reg_end (env' := [_, _, _, ⟨_, _⟩, _, _, _, _, _, _, _, _, _]) ?_
    have h0 := List.length_pos_iff.2 hc0.1
    have hP := nameB_2 s (by omega) (by omega)
    refine wp_for hm (ι := Nat) (fun i => [⟨true, .str s⟩, .un, .un, ⟨true, .it 9⟩, .un, .un, .un, .un, .un, .un, .un, .un, .un]) (fun i => [(9, .iter s i)]) 10 (fun i => i ≤ s.length ∧ nameB s = allF (nch2 s) i s.length) (fun i => s.length - i) 0 ⟨by omega, hP⟩ (Ghost.to [(9, 9)] q7 q7 q4 q1) ?_
    rintro i ⟨hi, hr⟩
    refine wp_regseq ?_
    by_cases hnx : i < s.length
    · obtain ⟨c, w, hdec, hw, hcw⟩ := dec_spec s i hnx
      refine r_nxt1 c w (hp := hnx) (hc := hdec) ?_; refine r_ext (.bool _) ?_; refine reg_end (env' := [_, _, _, _, ⟨_, (.bool _)⟩, ⟨_, _⟩, _, _, _, _, _, _, _]) ?_
      refine wp_condseq (t := true) (fun _ => ?_) (fun h => by cases h)
      refine wp_skipseq ?_
      refine wp_blockL ?_ hm
      refine wp_regseq ?_; refine r_ext (.int _ _) ?_; refine r_ext (.int _ _) ?_; refine r_mv ?_; refine r_mv ?_; refine reg_end (env' := [_, _, _, _, _, _, ⟨_, (.int _ _)⟩, _, _, ⟨_, (.int _ _)⟩, _, _, _]) ?_
      refine wp_blockL ?_ hm
      refine wp_regseq ?_; refine r_mv ?_; refine r_geqI ?_; refine r_mv ?_; refine r_mv ?_; refine r_leqI ?_; refine r_and ?_; refine r_mv ?_; refine reg_end (env' := [_, _, _, _, _, _, _, ⟨_, (.bool _)⟩, _, _, _, _, _]) ?_
      refine wp_cond (fun hc2 => ?_) (fun hc2 => ?_)
      · try simp only [b0, b1, b2, b3, b4, b5, b6, b7, b8, b9, b10, b11] at hc2
        refine wp_skip ?_
        refine BQ0.normal ?_
        refine BQ0.normal ?_
        refine LQ.normal ?_
        obtain ⟨rfl, hat, -⟩ : w = 1 ∧ (c : Int) = at8 s i ∧ c < 128 := by
          rcases hcw with h | h
          · exact h
          · omega
        have hz : nch2 s i = true := by
          simp only [nch2, lowB, digitB, Bool.or_eq_true, Bool.and_eq_true, Bool.not_eq_true', decide_eq_true_eq, decide_eq_false_iff_not]; omega
        exact ⟨i + 1, ⟨by omega, by rw [hr, allF_lt hnx, hz]; rfl⟩, by omega, (Ghost.to [(9, 9)] q7 q7 q4 q1)⟩
      · try simp only [b0, b1, b2, b3, b4, b5, b6, b7, b8, b9, b10, b11] at hc2
        refine wp_regseq ?_; refine r_mv ?_; refine r_geqI ?_; refine r_mv ?_; refine r_mv ?_; refine r_leqI ?_; refine r_and ?_; refine r_mv ?_; refine reg_end (env' := [_, _, _, _, _, _, _, _, ⟨_, (.bool _)⟩, _, _, _, _]) ?_
        refine wp_cond (fun hc3 => ?_) (fun hc3 => ?_)
        · try simp only [b0, b1, b2, b3, b4, b5, b6, b7, b8, b9, b10, b11] at hc3
          refine wp_regseq ?_; refine r_mv ?_; refine r_eqlI ?_; refine reg_end (env' := [_, _, _, _, _, _, _, _, _, _, ⟨_, (.bool _)⟩, _, _]) ?_
          refine wp_cond (fun hc4 => ?_) (fun hc4 => ?_)
          · try simp only [b0, b1, b2, b3, b4, b5, b6, b7, b8, b9, b10, b11] at hc4
            refine wp_regseq ?_; refine r_mv ?_; refine reg_end (env' := [_, ⟨_, (.bool _)⟩, _, _, _, _, _, _, _, _, _, _, _]) ?_; refine wp_ret ?_
            refine BQ0.ret ?_
            refine BQ0.ret ?_
            refine LQ.ret ?_
            refine res_of trivial q2 q3 (Eq.trans q7 (congrArg D.bool ?_))
            first
              | (exfalso; omega)
              | (rw [hr, allF_ge (by omega)]; done)
              | (have hz : nch2 s i = false := by
                  rcases hcw with ⟨_, h, _⟩ | ⟨_, h⟩ <;> (simp only [nch2, lowB, digitB, Bool.or_eq_false_iff, Bool.and_eq_false_iff, Bool.not_eq_false', decide_eq_true_eq, decide_eq_false_iff_not]; omega)
                 rw [hr, allF_lt hnx, hz]; rfl)
          · try simp only [b0, b1, b2, b3, b4, b5, b6, b7, b8, b9, b10, b11] at hc4
            refine wp_skip ?_
            refine BQ0.normal ?_
            refine BQ0.normal ?_
            refine LQ.normal ?_
            obtain ⟨rfl, hat, -⟩ : w = 1 ∧ (c : Int) = at8 s i ∧ c < 128 := by
              rcases hcw with h | h
              · exact h
              · omega
            have hz : nch2 s i = true := by
              simp only [nch2, lowB, digitB, Bool.or_eq_true, Bool.and_eq_true, Bool.not_eq_true', decide_eq_true_eq, decide_eq_false_iff_not]; omega
            exact ⟨i + 1, ⟨by omega, by rw [hr, allF_lt hnx, hz]; rfl⟩, by omega, (Ghost.to [(9, 9)] q7 q7 q4 q1)⟩
        · try simp only [b0, b1, b2, b3, b4, b5, b6, b7, b8, b9, b10, b11] at hc3
          refine wp_regseq ?_; refine r_mv ?_; refine r_eqlI ?_; refine r_mv ?_; refine reg_end (env' := [_, _, _, _, _, _, _, _, _, _, _, ⟨_, (.bool _)⟩, _]) ?_
          refine wp_cond (fun hc5 => ?_) (fun hc5 => ?_)
          · try simp only [b0, b1, b2, b3, b4, b5, b6, b7, b8, b9, b10, b11] at hc5
            refine wp_regseq ?_; refine r_mv ?_; refine r_eqlI ?_; refine r_mv ?_; refine r_mv ?_; refine r_mv ?_
            refine r_lenS fun _ => ?_
            refine r_sub64 ?_; refine r_eqlI ?_; refine r_or ?_; refine r_mv ?_; refine r_mv ?_; refine r_mv ?_; refine r_sub64 ?_; refine r_ixS (i - 1) ?_; refine r_eqlI ?_; refine r_or ?_; refine reg_end (env' := [_, _, _, _, _, _, _, _, _, _, _, _, ⟨_, (.bool _)⟩]) ?_
            refine wp_cond (fun hc6 => ?_) (fun hc6 => ?_)
            · try simp only [b0, b1, b2, b3, b4, b5, b6, b7, b8, b9, b10, b11] at hc6
              refine wp_regseq ?_; refine r_mv ?_; refine reg_end (env' := [_, ⟨_, (.bool _)⟩, _, _, _, _, _, _, _, _, _, _, _]) ?_; refine wp_ret ?_
              refine BQ0.ret ?_
              refine BQ0.ret ?_
              refine LQ.ret ?_
              refine res_of trivial q2 q3 (Eq.trans q7 (congrArg D.bool ?_))
              first
                | (exfalso; omega)
                | (rw [hr, allF_ge (by omega)]; done)
                | (have hz : nch2 s i = false := by
                    rcases hcw with ⟨_, h, _⟩ | ⟨_, h⟩ <;> (simp only [nch2, lowB, digitB, Bool.or_eq_false_iff, Bool.and_eq_false_iff, Bool.not_eq_false', decide_eq_true_eq, decide_eq_false_iff_not]; omega)
                   rw [hr, allF_lt hnx, hz]; rfl)
            · try simp only [b0, b1, b2, b3, b4, b5, b6, b7, b8, b9, b10, b11] at hc6
              refine wp_skip ?_
              refine BQ0.normal ?_
              refine BQ0.normal ?_
              refine LQ.normal ?_
              obtain ⟨rfl, hat, -⟩ : w = 1 ∧ (c : Int) = at8 s i ∧ c < 128 := by
                rcases hcw with h | h
                · exact h
                · omega
              have hz : nch2 s i = true := by
                simp only [nch2, lowB, digitB, Bool.or_eq_true, Bool.and_eq_true, Bool.not_eq_true', decide_eq_true_eq, decide_eq_false_iff_not]; omega
              exact ⟨i + 1, ⟨by omega, by rw [hr, allF_lt hnx, hz]; rfl⟩, by omega, (Ghost.to [(9, 9)] q7 q7 q4 q1)⟩
          · try simp only [b0, b1, b2, b3, b4, b5, b6, b7, b8, b9, b10, b11] at hc5
            refine wp_regseq ?_; refine r_mv ?_; refine reg_end (env' := [_, ⟨_, (.bool _)⟩, _, _, _, _, _, _, _, _, _, _, _]) ?_; refine wp_ret ?_
            refine BQ0.ret ?_
            refine BQ0.ret ?_
            refine LQ.ret ?_
            refine res_of trivial q2 q3 (Eq.trans q7 (congrArg D.bool ?_))
            first
              | (exfalso; omega)
              | (rw [hr, allF_ge (by omega)]; done)
              | (have hz : nch2 s i = false := by
                  rcases hcw with ⟨_, h, _⟩ | ⟨_, h⟩ <;> (simp only [nch2, lowB, digitB, Bool.or_eq_false_iff, Bool.and_eq_false_iff, Bool.not_eq_false', decide_eq_true_eq, decide_eq_false_iff_not]; omega)
                 rw [hr, allF_lt hnx, hz]; rfl)
    · refine r_nxt0 (hp := hnx) ?_; refine r_ext (.bool _) ?_; refine reg_end (env' := [_, _, _, _, ⟨_, (.bool _)⟩, ⟨_, _⟩, _, _, _, _, _, _, _]) ?_
      refine wp_condseq (t := false) (fun h => by cases h) (fun _ => ?_)
      refine wp_exitseq ?_; refine LQ.out ?_; refine wp_regseq ?_; refine r_mv ?_; refine reg_end (env' := [_, ⟨_, (.bool _)⟩, _, _, _, _, _, _, _, _, _, _, _]) ?_; refine wp_ret ?_
      refine res_of trivial q2 q3 (Eq.trans q7 (congrArg D.bool ?_))
      first
        | (exfalso; omega)
        | (rw [hr, allF_ge (by omega)]; done)
        | (have hz : nch2 s i = false := by
            rcases hcw with ⟨_, h, _⟩ | ⟨_, h⟩ <;> (simp only [nch2, lowB, digitB, Bool.or_eq_false_iff, Bool.and_eq_false_iff, Bool.not_eq_false', decide_eq_true_eq, decide_eq_false_iff_not]; omega)
           rw [hr, allF_lt hnx, hz]; rfl)
def C208 (Γ : Ctx) : Prop := ∀ (s : Str), Γ.pre 208 [.str s] ∧ Γ.val 208 [.str s] = .bool (nameB s)
/-- linchpin/ident.Number -/
def ident_Number : AFunc := { np := 1, ns := 10, res := [⟨1, none⟩, ⟨2, none⟩], rsh := [[.a], [.a]], body := (.seq (.reg false [⟨.mv (.c (.int .i64 0)), none⟩, ⟨.mv (.c (.bool false)), none⟩] [(1, 0), (2, 1)]) (.seq (.seq (.reg false [⟨.mv (.s 0), none⟩, ⟨.bin .eql (.l 0) (.c (.str [])), none⟩, ⟨.mv (.l 1), none⟩, ⟨.mv (.s 0), some (2, false)⟩, ⟨.lenS (.l 3), some (2, false)⟩, ⟨.bin .gtr (.l 4) (.c (.int .i64 4)), some (2, false)⟩, ⟨.pick (.l 2) (.c (.bool true)) (.l 5), none⟩, ⟨.mv (.l 6), none⟩, ⟨.mv (.s 0), some (7, false)⟩, ⟨.ixS (.l 8) (.c (.int .i64 0)), some (7, false)⟩, ⟨.bin .eql (.l 9) (.c (.int .u8 48)), some (7, false)⟩, ⟨.mv (.l 10), some (7, false)⟩, ⟨.mv (.s 0), some (11, true)⟩, ⟨.lenS (.l 12), some (11, true)⟩, ⟨.bin .gtr (.l 13) (.c (.int .i64 1)), some (11, true)⟩, ⟨.pick (.l 11) (.l 14) (.c (.bool false)), some (7, false)⟩, ⟨.pick (.l 7) (.c (.bool true)) (.l 15), none⟩] [(3, 16)]) (.cond (.s 3) (.seq (.reg false [⟨.mv (.c (.int .i64 0)), none⟩, ⟨.mv (.c (.bool false)), none⟩] [(1, 0), (2, 1)]) .ret) .skip)) (.seq (.reg false [⟨.mv (.c (.int .i64 0)), none⟩] [(9, 0)]) (.seq (.seq (.reg false [⟨.mv (.s 0), none⟩, ⟨.rng (.l 0), none⟩] [(4, 1)]) (.block 0 (.loop (.seq (.reg false [⟨.nxt (.s 4), none⟩, ⟨.ext (.l 0) 0, none⟩] [(6, 0), (5, 1)]) (.seq (.cond (.s 5) .skip (.exit 0)) (.block 1 (.seq (.reg false [⟨.ext (.s 6) 2, none⟩, ⟨.mv (.l 0), none⟩] [(7, 1)]) (.block 2 (.seq (.reg false [⟨.mv (.s 7), none⟩, ⟨.bin .geq (.l 0) (.c (.int .i32 48)), none⟩, ⟨.mv (.l 1), none⟩, ⟨.mv (.s 7), some (2, true)⟩, ⟨.bin .leq (.l 3) (.c (.int .i32 57)), some (2, true)⟩, ⟨.pick (.l 2) (.l 4) (.c (.bool false)), none⟩, ⟨.mv (.l 5), none⟩] [(8, 6)]) (.cond (.s 8) (.reg false [⟨.mv (.s 9), none⟩, ⟨.bin .mul (.c (.int .i64 10)) (.l 0), none⟩, ⟨.mv (.s 7), none⟩, ⟨.bin .sub (.l 2) (.c (.int .i32 48)), none⟩, ⟨.cvi .i64 (.l 3), none⟩, ⟨.bin .add (.l 1) (.l 4), none⟩, ⟨.mv (.l 5), none⟩] [(9, 6)]) (.seq (.reg false [⟨.mv (.c (.int .i64 0)), none⟩, ⟨.mv (.c (.bool false)), none⟩] [(1, 0), (2, 1)]) .ret))))))))))) (.seq (.reg false [⟨.mv (.s 9), none⟩, ⟨.mv (.s 9), none⟩, ⟨.bin .leq (.l 1) (.c (.int .i64 9999)), none⟩, ⟨.mv (.l 0), none⟩, ⟨.mv (.l 2), none⟩] [(1, 3), (2, 4)]) .ret))))) }
theorem w658 {Γ : Ctx} (hm : (Γ.at 0).Mono)  (s : Str)  : wpA (Γ.at 0) ident_Number.body (Res ident_Number (.tup [.int .i64 (numO s), .bool (numB s)]) : Ex → List Ent → St → Prop) (env0 ident_Number [.str s]) ⟨0, []⟩ := by
  show wpA _ _ _ [⟨true, .str s⟩, .un, .un, .un, .un, .un, .un, .un, .un, .un] ⟨0, []⟩
  refine wp_regseq ?_; refine r_mv ?_; refine r_mv ?_; refine reg_end (env' := [_, ⟨_, (.int _ _)⟩, ⟨_, (.bool _)⟩, _, _, _, _, _, _, _]) ?_; refine wp_assoc ?_; refine wp_regseq ?_; refine r_mv ?_; refine r_eqlS ?_; refine r_mv ?_; refine r_mv ?_
  refine r_lenS fun _ => ?_
  refine r_gtrI ?_; refine r_or ?_; refine r_mv ?_; refine r_mv ?_
  refine r_ixS 0 (hb := fun h => by simp at h; exact List.length_pos_iff.2 h.1) ?_
  refine r_eqlI ?_; refine r_mv ?_; refine r_mv ?_
  refine r_lenS fun _ => ?_
  refine r_gtrI ?_; refine r_and ?_; refine r_or ?_; refine reg_end (env' := [_, _, _, ⟨_, (.bool _)⟩, _, _, _, _, _, _]) ?_
  refine wp_condseq (fun hc0 => ?_) (fun hc0 => ?_)
  · try simp only [b0, b1, b2, b3, b4, b5, b6, b7, b8, b9, b10, b11] at hc0
    refine wp_assoc ?_; refine wp_regseq ?_; refine r_mv ?_; refine r_mv ?_; refine reg_end (env' := [_, ⟨_, (.int _ _)⟩, ⟨_, (.bool _)⟩, _, _, _, _, _, _, _]) ?_; refine wp_retseq ?_
    refine res_of trivial q2 q3 (Eq.trans q7 (tup_eq2 (congrArg (D.int .i64) ?_) (congrArg D.bool ?_)))
    all_goals
      have : numB s = false := by
        rw [numB_4]; rcases hc0 with (h | h) | h
        · subst h; simp
        · rw [decide_eq_false (by omega : ¬ s.length ≤ 4)]; simp
        · rw [decide_eq_true (by omega : 1 < s.length), decide_eq_true h.1]; simp
      simp [numO, this]
  · try simp only [b0, b1, b2, b3, b4, b5, b6, b7, b8, b9, b10, b11] at hc0
    refine wp_skipseq ?_; refine wp_regseq ?_; refine r_mv ?_; refine reg_end (env' := [_, _, _, _, _, _, _, _, _, ⟨_, (.int _ _)⟩]) ?_; refine wp_assoc ?_; refine wp_regseq ?_; refine r_mv ?_; refine r_rng ?_; refine reg_end (env' := [_, _, _, _, ⟨_, _⟩, _, _, _, _, _]) ?_
    have h0 := List.length_pos_iff.2 hc0.1.1
    have hP : numB s = allF (fun i => digitB (at8 s i)) 0 s.length := by
      rw [numB_4, decide_eq_true (by omega : 1 ≤ s.length), decide_eq_true (by omega : s.length ≤ 4)]; rcases hc0.2 with h | h
      · rw [decide_eq_false h, Bool.and_false]; rfl
      · rw [decide_eq_false (by omega : ¬ 1 < s.length)]; rfl
    refine wp_for hm (ι := Nat) (fun i => [⟨true, .str s⟩, .un, .un, .un, ⟨true, .it 21⟩, .un, .un, .un, .un, ⟨true, .int .i64 (numVal (s.take i) : Nat)⟩]) (fun i => [(21, .iter s i)]) 22 (fun i => i ≤ s.length ∧ s.length ≤ 4 ∧ numB s = allF (fun i => digitB (at8 s i)) i s.length) (fun i => s.length - i) 0 ⟨by omega, by omega, hP⟩ (Ghost.to [(21, 21)] q7 q7 q4 q1) ?_
    rintro i ⟨hi, h9, hr⟩
    refine wp_regseq ?_
    by_cases hnx : i < s.length
    · obtain ⟨c, w, hdec, hw, hcw⟩ := dec_spec s i hnx
      refine r_nxt1 c w (hp := hnx) (hc := hdec) ?_; refine r_ext (.bool _) ?_; refine reg_end (env' := [_, _, _, _, _, ⟨_, (.bool _)⟩, ⟨_, _⟩, _, _, _]) ?_
      refine wp_condseq (t := true) (fun _ => ?_) (fun h => by cases h)
      refine wp_skipseq ?_
      refine wp_blockL ?_ hm
      refine wp_regseq ?_; refine r_ext (.int _ _) ?_; refine r_mv ?_; refine reg_end (env' := [_, _, _, _, _, _, _, ⟨_, (.int _ _)⟩, _, _]) ?_
      refine wp_blockL ?_ hm
      refine wp_regseq ?_; refine r_mv ?_; refine r_geqI ?_; refine r_mv ?_; refine r_mv ?_; refine r_leqI ?_; refine r_and ?_; refine r_mv ?_; refine reg_end (env' := [_, _, _, _, _, _, _, _, ⟨_, (.bool _)⟩, _]) ?_
      refine wp_cond (fun hc2 => ?_) (fun hc2 => ?_)
      · try simp only [b0, b1, b2, b3, b4, b5, b6, b7, b8, b9, b10, b11] at hc2
        refine wp_reg ?_
        obtain ⟨rfl, hat, -⟩ : w = 1 ∧ (c : Int) = at8 s i ∧ c < 128 := by
          rcases hcw with h | h
          · exact h
          · omega
        have hn := numVal_small s i (by omega)
        have hn2 := numVal_succ s i (by omega)
        have h256 := at8_lt s i
        refine r_mv ?_; refine r_mul64 ?_; refine r_mv ?_
        refine r_subK ((c : Int) - 48) (hb := fun _ => IntWalk.i32_in _ (by omega)) ?_
        refine r_cvi ((c : Int) - 48) (hb := fun _ => IntWalk.i64_in _ (by omega)) ?_
        refine r_add64 ?_; refine r_mv ?_; refine reg_fin (env' := [_, _, _, _, _, _, _, _, _, ⟨_, (.int _ _)⟩]) ?_
        rw [show 10 * (numVal (s.take i) : Int) + ((c : Int) - 48) = (numVal (s.take (i + 1)) : Nat) by omega]
        refine BQ0.normal ?_
        refine BQ0.normal ?_
        refine LQ.normal ?_
        have hz : digitB (at8 s i) = true := by
          simp only [digitB, Bool.and_eq_true, decide_eq_true_eq]; omega
        exact ⟨i + 1, ⟨by omega, h9, by rw [hr, allF_lt (by omega), hz]; rfl⟩, by omega, (Ghost.to [(21, 21)] q7 q7 q4 q1)⟩
      · try simp only [b0, b1, b2, b3, b4, b5, b6, b7, b8, b9, b10, b11] at hc2
        refine wp_regseq ?_; refine r_mv ?_; refine r_mv ?_; refine reg_end (env' := [_, ⟨_, (.int _ _)⟩, ⟨_, (.bool _)⟩, _, _, _, _, _, _, _]) ?_; refine wp_ret ?_
        refine BQ0.ret ?_
        refine BQ0.ret ?_
        refine LQ.ret ?_
        refine res_of trivial q2 q3 (Eq.trans q7 (tup_eq2 (congrArg (D.int .i64) ?_) (congrArg D.bool ?_)))
        all_goals
          have hz : digitB (at8 s i) = false := by
            rcases hcw with ⟨_, h, _⟩ | ⟨_, h⟩ <;> (simp only [digitB, Bool.and_eq_false_iff, decide_eq_false_iff_not]; omega)
          have : numB s = false := by rw [hr, allF_lt (by omega), hz]; rfl
          simp [numO, this]
    · refine r_nxt0 (hp := hnx) ?_; refine r_ext (.bool _) ?_; refine reg_end (env' := [_, _, _, _, _, ⟨_, (.bool _)⟩, ⟨_, _⟩, _, _, _]) ?_
      refine wp_condseq (t := false) (fun h => by cases h) (fun _ => ?_)
      refine wp_exitseq ?_; refine LQ.out ?_; refine wp_regseq ?_; refine r_mv ?_; refine r_mv ?_; refine r_leqI ?_; refine r_mv ?_; refine r_mv ?_; refine reg_end (env' := [_, ⟨_, (.int _ _)⟩, ⟨_, (.bool _)⟩, _, _, _, _, _, _, _]) ?_; refine wp_ret ?_
      refine res_of trivial q2 q3 (Eq.trans q7 (tup_eq2 (congrArg (D.int .i64) ?_) (congrArg D.bool ?_)))
      all_goals
        have this : numB s = true := by rw [hr, allF_ge (by omega)]
        have ht : s.take i = s := List.take_of_length_le (by omega)
        have h9 := this
        simp only [numB, Bool.and_eq_true, decide_eq_true_eq] at h9
        have h99 := h9.2
        rw [ht]
        first
        | (simp only [numO, this]; rfl)
        | (rw [this, decide_eq_true_eq]; omega)
def C658 (Γ : Ctx) : Prop := ∀ (s : Str), Γ.pre 658 [.str s] ∧ Γ.val 658 [.str s] = .tup [.int .i64 (numO s), .bool (numB s)]
/-- linchpin/digest.digit -/
def digest_digit : AFunc := { np := 1, ns := 3, res := [⟨1, none⟩], rsh := [[.a]], body := (.seq (.reg false [⟨.mv (.c (.int .u8 0)), none⟩] [(1, 0)]) (.seq (.seq (.reg false [⟨.mv (.s 0), none⟩, ⟨.bin .lss (.l 0) (.c (.int .u8 10)), none⟩] [(2, 1)]) (.cond (.s 2) (.seq (.reg false [⟨.mv (.s 0), none⟩, ⟨.bin .add (.c (.int .u8 48)) (.l 0), none⟩, ⟨.mv (.l 1), none⟩] [(1, 2)]) .ret) .skip)) (.seq (.reg false [⟨.mv (.s 0), none⟩, ⟨.bin .add (.c (.int .u8 97)) (.l 0), none⟩, ⟨.bin .sub (.l 1) (.c (.int .u8 10)), none⟩, ⟨.mv (.l 2), none⟩] [(1, 3)]) .ret))) }
theorem w686 {Γ : Ctx} (hm : (Γ.at 0).Mono)  (k : Nat) (hp0 : k < 16) : wpA (Γ.at 0) digest_digit.body (Res digest_digit (.int .u8 ((hexD k).toNat : Nat)) : Ex → List Ent → St → Prop) (env0 digest_digit [.int .u8 (k : Nat)]) ⟨0, []⟩ := by
  show wpA _ _ _ [⟨true, .int .u8 (k : Nat)⟩, .un, .un] ⟨0, []⟩
  refine wp_regseq ?_; refine r_mv ?_; refine reg_end (env' := [_, ⟨_, (.int _ _)⟩, _]) ?_; refine wp_assoc ?_; refine wp_regseq ?_; refine r_mv ?_
  first | refine r_lssI ?_ | refine r_lssS ?_
  refine reg_end (env' := [_, _, ⟨_, (.bool _)⟩]) ?_
  refine wp_condseq (fun hc0 => ?_) (fun hc0 => ?_)
  · try simp only [b0, b1, b2, b3, b4, b5, b6, b7, b8, b9, b10, b11] at hc0
    refine wp_assoc ?_; refine wp_regseq ?_; refine r_mv ?_
    refine r_addK (48 + (k : Int)) (hb := fun _ => IntWalk.u8_in _ (by omega)) ?_
    refine r_mv ?_; refine reg_end (env' := [_, ⟨_, (.int _ _)⟩, _]) ?_; refine wp_retseq ?_
    refine res_of trivial q2 q3 (Eq.trans q7 (congrArg (D.int .u8) ?_))
    exact (hexD_lt k (by omega)).symm
  · try simp only [b0, b1, b2, b3, b4, b5, b6, b7, b8, b9, b10, b11] at hc0
    refine wp_skipseq ?_; refine wp_regseq ?_; refine r_mv ?_
    refine r_addK (97 + (k : Int)) (hb := fun _ => IntWalk.u8_in _ (by omega)) ?_
    refine r_subK (87 + (k : Int)) (hb := fun _ => by rw [show 97 + (k : Int) - 10 = 87 + k by omega]; exact IntWalk.u8_in _ (by omega)) ?_
    refine r_mv ?_; refine reg_end (env' := [_, ⟨_, (.int _ _)⟩, _]) ?_; refine wp_ret ?_
    refine res_of trivial q2 q3 (Eq.trans q7 (congrArg (D.int .u8) ?_))
    exact (hexD_ge k (by omega) hp0).symm
def C686 (Γ : Ctx) : Prop := ∀ (k : Nat), (k < 16) → Γ.pre 686 [.int .u8 (k : Nat)] ∧ Γ.val 686 [.int .u8 (k : Nat)] = .int .u8 ((hexD k).toNat : Nat)
/-- linchpin/digest.Text -/
def digest_Text : AFunc := { np := 1, ns := 7, res := [⟨1, none⟩], rsh := [[.a]], body := (.seq (.reg false [⟨.mv (.c (.str [])), none⟩] [(1, 0)]) (.seq (.reg false [⟨.mks 1 (.int .u8 0) (.c (.int .i64 16)) (.c (.int .i64 16)), none⟩, ⟨.mv (.l 0), none⟩] [(2, 1)]) (.seq (.seq (.reg false [⟨.mv (.s 2), none⟩, ⟨.len (.l 0), none⟩, ⟨.mv (.c (.int .i64 0)), none⟩] [(4, 1), (3, 2)]) (.block 0 (.loop (.seq (.reg false [⟨.bin .lss (.s 3) (.s 4), none⟩] [(5, 0)]) (.seq (.cond (.s 5) .skip (.exit 0)) (.seq (.block 1 (.seq (.reg false [⟨.mv (.s 3), none⟩, ⟨.mv (.l 0), none⟩] [(6, 1)]) (.reg false [⟨.mv (.s 2), none⟩, ⟨.mv (.s 6), none⟩, ⟨.bin .sub (.c (.int .i64 15)) (.l 1), none⟩, ⟨.mv (.s 0), none⟩, ⟨.mv (.s 6), none⟩, ⟨.bin .mul (.c (.int .i64 4)) (.l 4), none⟩, ⟨.bin .shr (.l 3) (.l 5), none⟩, ⟨.bin .and (.l 6) (.c (.int .u64 15)), none⟩, ⟨.cvi .u8 (.l 7), none⟩, ⟨.call 686 [(.l 8)] [[.a]], none⟩, ⟨.ia 1 (.l 0) (.l 2), none⟩, ⟨.st 1 (.l 10) (.l 9), none⟩] []))) (.reg false [⟨.bin .add (.s 3) (.c (.int .i64 1)), none⟩, ⟨.mv (.l 0), none⟩] [(3, 1)]))))))) (.seq (.reg false [⟨.mv (.s 2), none⟩, ⟨.b2s (.l 0), none⟩, ⟨.mv (.l 1), none⟩] [(1, 2)]) .ret)))) }
theorem w497 {Γ : Ctx} (hm : (Γ.at 0).Mono) (h686 : C686 (Γ.at 0)) (n : Int)  : wpA (Γ.at 0) digest_Text.body (Res digest_Text (.str (textL n)) : Ex → List Ent → St → Prop) (env0 digest_Text [.int .u64 n]) ⟨0, []⟩ := by
  show wpA _ _ _ [⟨true, .int .u64 n⟩, .un, .un, .un, .un, .un, .un] ⟨0, []⟩
  refine wp_regseq ?_; refine r_mv ?_; refine reg_end (env' := [_, ⟨_, (.str _)⟩, _, _, _, _, _]) ?_; refine wp_regseq ?_; refine r_mks _ ?_; refine r_mv ?_; refine reg_end (env' := [_, _, ⟨_, (.own _ _ _ _)⟩, _, _, _, _]) ?_; refine wp_assoc ?_; refine wp_regseq ?_; refine r_mv ?_
  refine r_lenO fun hlR2_1 => ?_; replace hlR2_1 := hlR2_1 rfl rfl
  refine r_mv ?_; refine reg_end (env' := [_, _, _, ⟨_, (.int _ _)⟩, ⟨_, (.int _ _)⟩, _, _]) ?_
  refine wp_for hm (ι := Nat) (fun i => [⟨true, .int .u64 n⟩, .un, ⟨true, .own 1 1 0 16⟩, ⟨true, .int .i64 (i : Nat)⟩, ⟨true, .int .i64 (16 : Nat)⟩, .un, .un]) (fun i => [(1, .buf 1 ((textB n i).map fun b => D.int .u8 b.toNat))]) 6 (fun i => i ≤ 16) (fun i => 16 - i) 0 (by omega) (Ghost.to [(1, 1)] q7 q7 q4 q1) ?_
  intro i hi
  have hlen := textB_len n i
  refine wp_regseq ?_; refine r_lssI ?_; refine reg_end (env' := [_, _, _, _, _, ⟨_, (.bool _)⟩, _]) ?_
  refine wp_condseq (fun hc0 => ?_) (fun hc0 => ?_)
  · try simp only [b0, b1, b2, b3, b4, b5, b6, b7, b8, b9, b10, b11] at hc0
    refine wp_skipseq ?_
    refine wp_blockseq ?_ hm
    refine wp_regseq ?_; refine r_mv ?_; refine r_mv ?_; refine reg_end (env' := [_, _, _, _, _, _, ⟨_, (.int _ _)⟩]) ?_; refine wp_reg ?_; refine r_mv ?_; refine r_mv ?_; refine r_sub64 ?_; refine r_mv ?_; refine r_mv ?_; refine r_mul64 ?_
    refine r_shr (shr64 n (4 * i)) (hb := fun _ => by rw [show min (Int.toNat (4 * (i : Int))) (IntKind.bits .u64) = 4 * i by simp [IntKind.bits]; omega]; rfl) ?_
    refine r_band ((nib n i : Nat) : Int) (hb := fun _ => nib_wrap n i) ?_; have hnib := nib_lt n i
    refine r_cvi ((nib n i : Nat) : Int) (hb := fun _ => IntWalk.u8_in _ (by omega)) ?_
    refine r_call (hc := h686 (nib n i) hnib) ?_; refine r_iaO (15 - i) ?_
    refine r_stE ((textB n (i + 1)).map fun b => D.int .u8 b.toNat) (hi := by simp; omega) (he := by rw [textB_set n i (by omega)]; simp [stEl]) ?_
    refine reg_fin (env' := [_, _, _, _, _, _, _]) ?_; refine BQ.normal ?_; refine wp_reg ?_; refine r_add64 ?_; refine r_mv ?_; refine reg_fin (env' := [_, _, _, ⟨_, (.int _ _)⟩, _, _, _]) ?_; refine LQ.normal ?_
    exact ⟨i + 1, (by omega), by omega, (Ghost.to [(1, 1)] q7 q7 q4 q1)⟩
  · try simp only [b0, b1, b2, b3, b4, b5, b6, b7, b8, b9, b10, b11] at hc0
    refine wp_exitseq ?_; refine LQ.out ?_; refine wp_regseq ?_
    have h16 : i = 16 := by omega
    subst h16
    refine r_mv ?_
    refine r_b2s (textL n) (he := fun _ => Els.all q7 (by simp [textB_len])) (hs := fun _ => by rw [textB_all]) ?_
    refine r_mv ?_; refine reg_end (env' := [_, ⟨_, (.str _)⟩, _, _, _, _, _]) ?_; refine wp_ret ?_
    refine res_of trivial q2 q3 (Eq.trans q7 (congrArg D.str ?_))
    rfl
def C497 (Γ : Ctx) : Prop := ∀ (n : Int), Γ.pre 497 [.int .u64 n] ∧ Γ.val 497 [.int .u64 n] = .str (textL n)
end Go.Abs
end
section
namespace Go.Abs
open Go
/-- linchpin/ident.Split -/
def ident_Split : AFunc := { np := 2, ns := 10, res := [⟨2, none⟩], rsh := [[.sl 1 [.a]]], body := (.seq (.reg false [⟨.mv (.c (.nils)), none⟩] [(2, 0)]) (.seq (.reg false [⟨.mv (.c (.nils)), none⟩] [(8, 0)]) (.seq (.reg false [⟨.mv (.c (.int .i64 0)), none⟩] [(9, 0)]) (.seq (.seq (.reg false [⟨.mv (.s 0), none⟩, ⟨.lenS (.l 0), none⟩, ⟨.mv (.c (.int .i64 0)), none⟩] [(4, 1), (3, 2)]) (.block 0 (.loop (.seq (.reg false [⟨.bin .lss (.s 3) (.s 4), none⟩] [(5, 0)]) (.seq (.cond (.s 5) .skip (.exit 0)) (.seq (.block 1 (.seq (.reg false [⟨.mv (.s 3), none⟩, ⟨.mv (.l 0), none⟩] [(6, 1)]) (.seq (.reg false [⟨.mv (.s 0), none⟩, ⟨.mv (.s 6), none⟩, ⟨.ixS (.l 0) (.l 1), none⟩, ⟨.mv (.s 1), none⟩, ⟨.bin .eql (.l 2) (.l 3), none⟩] [(7, 4)]) (.cond (.s 7) (.seq (.reg false [⟨.mv (.s 8), none⟩, ⟨.mv (.s 0), none⟩, ⟨.mv (.s 9), none⟩, ⟨.mv (.s 6), none⟩, ⟨.slS (.l 1) (some (.l 2)) (some (.l 3)), none⟩, ⟨.bsl 1 (.str []) 1 [(0, (.l 4))], none⟩, ⟨.app 1 (.l 0) (.l 5), none⟩, ⟨.mv (.l 6), none⟩] [(8, 7)]) (.reg false [⟨.mv (.s 6), none⟩, ⟨.bin .add (.l 0) (.c (.int .i64 1)), none⟩, ⟨.mv (.l 1), none⟩] [(9, 2)])) .skip)))) (.reg false [⟨.bin .add (.s 3) (.c (.int .i64 1)), none⟩, ⟨.mv (.l 0), none⟩] [(3, 1)]))))))) (.seq (.reg false [⟨.mv (.s 8), none⟩, ⟨.mv (.s 0), none⟩, ⟨.mv (.s 9), none⟩, ⟨.slS (.l 1) (some (.l 2)) none, none⟩, ⟨.bsl 1 (.str []) 1 [(0, (.l 3))], none⟩, ⟨.app 1 (.l 0) (.l 4), none⟩, ⟨.mv (.l 5), none⟩] [(2, 6)]) .ret))))) }
theorem w533 {Γ : Ctx} (hm : (Γ.at 0).Mono)  (s : Str) (b : Int) (hp0 : s.length ≤ 1048576) : wpA (Γ.at 0) ident_Split.body (Res ident_Split (.sl 1 ((splitL s b).map D.str)) : Ex → List Ent → St → Prop) (env0 ident_Split [.str s, .int .u8 b]) ⟨0, []⟩ := by
  show wpA _ _ _ [⟨true, .str s⟩, ⟨true, .int .u8 b⟩, .un, .un, .un, .un, .un, .un, .un, .un] ⟨0, []⟩
  refine wp_regseq ?_; refine r_mv ?_; refine reg_end (env' := [_, _, ⟨_, .nils⟩, _, _, _, _, _, _, _]) ?_; refine wp_regseq ?_; refine r_mv ?_; refine reg_end (env' := [_, _, _, _, _, _, _, _, ⟨_, .nils⟩, _]) ?_; refine wp_regseq ?_; refine r_mv ?_; refine reg_end (env' := [_, _, _, _, _, _, _, _, _, ⟨_, (.int _ _)⟩]) ?_; refine wp_assoc ?_; refine wp_regseq ?_; refine r_mv ?_
  refine r_lenS fun hlR3_1 => ?_; replace hlR3_1 := hlR3_1 rfl rfl
  refine r_mv ?_; refine reg_end (env' := [_, _, _, ⟨_, (.int _ _)⟩, ⟨_, (.int _ _)⟩, _, _, _, _, _]) ?_
  refine wp_for hm (ι := (Nat × Nat × List Str)) (fun p : Nat × Nat × List Str => [⟨true, .str s⟩, ⟨true, .int .u8 b⟩, .un, ⟨true, .int .i64 (p.1 : Nat)⟩, ⟨true, .int .i64 (s.length : Nat)⟩, .un, .un, .un, ⟨true, .own 0 1 0 p.2.2.length⟩, ⟨true, .int .i64 (p.2.1 : Nat)⟩]) (fun p => [(0, .buf 1 (p.2.2.map D.str))]) 6 (fun p => p.1 ≤ s.length ∧ p.2.1 ≤ p.1 ∧ p.2.2.length ≤ p.1 ∧ splitL s b = p.2.2 ++ splitX b (s.drop p.1) ((s.take p.1).drop p.2.1)) (fun p => s.length - p.1) (0, 0, []) ⟨by simp, by simp, by simp, rfl⟩ (Ghost.to [] q7 q7 (by repeat (first | exact RnE.nil | refine RnE.un ?_ | refine RnE.eq q7 ?_ | refine RnE.nl q7 q7 ?_ | refine RnE.ni (Or.inr ⟨0, 1, 0, rfl⟩) ?_)) (by repeat (first | exact RnM.nil | refine RnM.mt q7 q7 q7 q7 ?_))) ?_
  rintro ⟨i, fr, acc⟩ ⟨hi, hf, ha, hr⟩
  dsimp only at hi hf ha hr ⊢
  refine wp_regseq ?_; refine r_lssI ?_; refine reg_end (env' := [_, _, _, _, _, ⟨_, (.bool _)⟩, _, _, _, _]) ?_
  refine wp_condseq (fun hc0 => ?_) (fun hc0 => ?_)
  · try simp only [b0, b1, b2, b3, b4, b5, b6, b7, b8, b9, b10, b11] at hc0
    refine wp_skipseq ?_
    refine wp_blockseq ?_ hm
    refine wp_regseq ?_; refine r_mv ?_; refine r_mv ?_; refine reg_end (env' := [_, _, _, _, _, _, ⟨_, (.int _ _)⟩, _, _, _]) ?_; refine wp_regseq ?_; refine r_mv ?_; refine r_mv ?_
    first | refine r_ixS _ ?_ | refine r_ixST ?_
    refine r_mv ?_; refine r_eqlI ?_; refine reg_end (env' := [_, _, _, _, _, _, _, ⟨_, (.bool _)⟩, _, _]) ?_
    refine wp_cond (fun hc1 => ?_) (fun hc1 => ?_)
    · try simp only [b0, b1, b2, b3, b4, b5, b6, b7, b8, b9, b10, b11] at hc1
      refine wp_regseq ?_; refine r_mv ?_; refine r_mv ?_; refine r_mv ?_; refine r_mv ?_; refine r_slS_lh _ _ ?_; refine r_bsl [(.str _)] ?_; refine r_app1 ?_; refine r_mv ?_; refine reg_end (env' := [_, _, _, _, _, _, _, _, ⟨_, (.own _ _ _ _)⟩, _]) ?_; refine wp_reg ?_; refine r_mv ?_; refine r_add64 ?_; refine r_mv ?_; refine reg_fin (env' := [_, _, _, _, _, _, _, _, _, ⟨_, (.int _ _)⟩]) ?_; refine BQ.normal ?_; refine wp_reg ?_; refine r_add64 ?_; refine r_mv ?_; refine reg_fin (env' := [_, _, _, ⟨_, (.int _ _)⟩, _, _, _, _, _, _]) ?_; refine LQ.normal ?_
      exact ⟨(i + 1, i + 1, acc ++ [(s.take i).drop fr]), ⟨by dsimp only; omega, by dsimp only; omega, by simp; omega, by rw [hr, splitX_eq (by omega) hc1]; simp⟩, by dsimp only; omega, (Ghost.to [(20, 0)] q7 q7 q6 (by refine RnM.nl 20 q7 q7 q7 q5 ?_; exact RnM.nil))⟩
    · simp only [decide_eq_false_iff_not] at hc1
      refine wp_skip ?_; refine BQ.normal ?_; refine wp_reg ?_; refine r_add64 ?_; refine r_mv ?_; refine reg_fin (env' := [_, _, _, ⟨_, (.int _ _)⟩, _, _, _, _, _, _]) ?_; refine LQ.normal ?_
      exact ⟨(i + 1, fr, acc), ⟨by dsimp only; omega, by dsimp only; omega, by dsimp only; omega, by rw [hr, splitX_ne (by omega) (by omega) hc1]⟩, by dsimp only; omega, (Ghost.to [(0, 0)] q7 q7 q6 (by refine RnM.nl 0 q7 q7 q7 q5 ?_; exact RnM.nil))⟩
  · try simp only [b0, b1, b2, b3, b4, b5, b6, b7, b8, b9, b10, b11] at hc0
    refine wp_exitseq ?_; refine LQ.out ?_; refine wp_regseq ?_; refine r_mv ?_; refine r_mv ?_; refine r_mv ?_; refine r_slS_lo _ ?_; refine r_bsl [(.str _)] ?_; refine r_app1 ?_; refine r_mv ?_; refine reg_end (env' := [_, _, ⟨_, (.own _ _ _ _)⟩, _, _, _, _, _, _, _]) ?_; refine wp_fz 12 ?_; refine wp_ret ?_
    refine res_of trivial q2 q3 (Eq.trans q7 (?_))
    have hs : splitL s b = acc ++ [s.drop fr] := by rw [hr, splitX_end (by omega)]
    rw [hs]
    exact rfl
def C533 (Γ : Ctx) : Prop := ∀ (s : Str) (b : Int), (s.length ≤ 1048576) → Γ.pre 533 [.str s, .int .u8 b] ∧ Γ.val 533 [.str s, .int .u8 b] = .sl 1 ((splitL s b).map D.str)
/-- linchpin/version.numeric -/
def version_numeric : AFunc := { np := 1, ns := 7, res := [⟨1, none⟩], rsh := [[.a]], body := (.seq (.reg false [⟨.mv (.c (.bool false)), none⟩] [(1, 0)]) (.seq (.seq (.reg false [⟨.mv (.s 0), none⟩, ⟨.lenS (.l 0), none⟩, ⟨.mv (.c (.int .i64 0)), none⟩] [(3, 1), (2, 2)]) (.block 0 (.loop (.seq (.reg false [⟨.bin .lss (.s 2) (.s 3), none⟩] [(4, 0)]) (.seq (.cond (.s 4) .skip (.exit 0)) (.seq (.block 1 (.seq (.reg false [⟨.mv (.s 2), none⟩, ⟨.mv (.l 0), none⟩] [(5, 1)]) (.seq (.reg false [⟨.mv (.s 0), none⟩, ⟨.mv (.s 5), none⟩, ⟨.ixS (.l 0) (.l 1), none⟩, ⟨.bin .lss (.l 2) (.c (.int .u8 48)), none⟩, ⟨.mv (.l 3), none⟩, ⟨.mv (.s 0), some (4, false)⟩, ⟨.mv (.s 5), some (4, false)⟩, ⟨.ixS (.l 5) (.l 6), some (4, false)⟩, ⟨.bin .gtr (.l 7) (.c (.int .u8 57)), some (4, false)⟩, ⟨.pick (.l 4) (.c (.bool true)) (.l 8), none⟩] [(6, 9)]) (.cond (.s 6) (.seq (.reg false [⟨.mv (.c (.bool false)), none⟩] [(1, 0)]) .ret) .skip)))) (.reg false [⟨.bin .add (.s 2) (.c (.int .i64 1)), none⟩, ⟨.mv (.l 0), none⟩] [(2, 1)]))))))) (.seq (.reg false [⟨.mv (.s 0), none⟩, ⟨.bin .neq (.l 0) (.c (.str [])), none⟩, ⟨.mv (.l 1), none⟩] [(1, 2)]) .ret))) }
theorem w659 {Γ : Ctx} (hm : (Γ.at 0).Mono)  (t : Str)  : wpA (Γ.at 0) version_numeric.body (Res version_numeric (.bool (numericB t)) : Ex → List Ent → St → Prop) (env0 version_numeric [.str t]) ⟨0, []⟩ := by
  show wpA _ _ _ [⟨true, .str t⟩, .un, .un, .un, .un, .un, .un] ⟨0, []⟩
  refine wp_regseq ?_; refine r_mv ?_; refine reg_end (env' := [_, ⟨_, (.bool _)⟩, _, _, _, _, _]) ?_; refine wp_assoc ?_; refine wp_regseq ?_; refine r_mv ?_
  refine r_lenS fun hlR1_1 => ?_; replace hlR1_1 := hlR1_1 rfl rfl
  refine r_mv ?_; refine reg_end (env' := [_, _, ⟨_, (.int _ _)⟩, ⟨_, (.int _ _)⟩, _, _, _]) ?_
  refine wp_for hm (ι := Nat) (fun i => [⟨true, .str t⟩, .un, ⟨true, .int .i64 (i : Nat)⟩, ⟨true, .int .i64 (t.length : Nat)⟩, .un, .un, .un]) (fun i => []) 4 (fun i => i ≤ t.length ∧ allF (fun i => digitB (at8 t i)) 0 t.length = allF (fun i => digitB (at8 t i)) i t.length) (fun i => t.length - i) 0 ⟨by omega, rfl⟩ (Ghost.to [] q7 q7 q4 q1) ?_
  rintro i ⟨hi, hr⟩
  refine wp_regseq ?_; refine r_lssI ?_; refine reg_end (env' := [_, _, _, _, ⟨_, (.bool _)⟩, _, _]) ?_
  refine wp_condseq (fun hc0 => ?_) (fun hc0 => ?_)
  · try simp only [b0, b1, b2, b3, b4, b5, b6, b7, b8, b9, b10, b11] at hc0
    refine wp_skipseq ?_
    refine wp_blockseq ?_ hm
    refine wp_regseq ?_; refine r_mv ?_; refine r_mv ?_; refine reg_end (env' := [_, _, _, _, _, ⟨_, (.int _ _)⟩, _]) ?_; refine wp_regseq ?_; refine r_mv ?_; refine r_mv ?_
    first | refine r_ixS _ ?_ | refine r_ixST ?_
    refine r_lssI ?_; refine r_mv ?_; refine r_mv ?_; refine r_mv ?_
    first | refine r_ixS _ ?_ | refine r_ixST ?_
    refine r_gtrI ?_; refine r_or ?_; refine reg_end (env' := [_, _, _, _, _, _, ⟨_, (.bool _)⟩]) ?_
    refine wp_cond (fun hc1 => ?_) (fun hc1 => ?_)
    · try simp only [b0, b1, b2, b3, b4, b5, b6, b7, b8, b9, b10, b11] at hc1
      refine wp_regseq ?_; refine r_mv ?_; refine reg_end (env' := [_, ⟨_, (.bool _)⟩, _, _, _, _, _]) ?_; refine wp_ret ?_; refine BQ.ret ?_; refine LQ.ret ?_
      refine res_of trivial q2 q3 (Eq.trans q7 (congrArg D.bool ?_))
      simp only [numericB]; rw [hr, allF_lt (by omega)]; rcases hc1 with h | h <;> simp [digitB] <;> omega
    · try simp only [b0, b1, b2, b3, b4, b5, b6, b7, b8, b9, b10, b11] at hc1
      refine wp_skip ?_; refine BQ.normal ?_; refine wp_reg ?_; refine r_add64 ?_; refine r_mv ?_; refine reg_fin (env' := [_, _, ⟨_, (.int _ _)⟩, _, _, _, _]) ?_; refine LQ.normal ?_
      exact ⟨i + 1, ⟨by omega, by rw [hr, allF_lt (by omega)]; rw [show digitB (at8 t i) = true by simp only [digitB, Bool.and_eq_true, decide_eq_true_eq]; omega]; rfl⟩, by omega, (Ghost.to [] q7 q7 q4 q1)⟩
  · try simp only [b0, b1, b2, b3, b4, b5, b6, b7, b8, b9, b10, b11] at hc0
    refine wp_exitseq ?_; refine LQ.out ?_; refine wp_regseq ?_; refine r_mv ?_; refine r_neqS ?_; refine r_mv ?_; refine reg_end (env' := [_, ⟨_, (.bool _)⟩, _, _, _, _, _]) ?_; refine wp_ret ?_
    refine res_of trivial q2 q3 (Eq.trans q7 (congrArg D.bool ?_))
    simp only [numericB]; rw [hr, allF_ge (by omega)]; cases t <;> simp
def C659 (Γ : Ctx) : Prop := ∀ (t : Str), Γ.pre 659 [.str t] ∧ Γ.val 659 [.str t] = .bool (numericB t)
/-- linchpin/version.fits -/
def version_fits : AFunc := { np := 1, ns := 2, res := [⟨1, none⟩], rsh := [[.a]], body := (.seq (.reg false [⟨.mv (.c (.bool false)), none⟩] [(1, 0)]) (.seq (.reg false [⟨.mv (.s 0), none⟩, ⟨.bin .geq (.l 0) (.c (.int .i64 0)), none⟩, ⟨.mv (.l 1), none⟩, ⟨.mv (.s 0), some (2, true)⟩, ⟨.bin .leq (.l 3) (.c (.int .i64 9999)), some (2, true)⟩, ⟨.pick (.l 2) (.l 4) (.c (.bool false)), none⟩, ⟨.mv (.l 5), none⟩] [(1, 6)]) .ret)) }
theorem w440 {Γ : Ctx} (hm : (Γ.at 0).Mono)  (n : Int)  : wpA (Γ.at 0) version_fits.body (Res version_fits (.bool (fitB n)) : Ex → List Ent → St → Prop) (env0 version_fits [.int .i64 n]) ⟨0, []⟩ := by
  show wpA _ _ _ [⟨true, .int .i64 n⟩, .un] ⟨0, []⟩
  refine wp_regseq ?_; refine r_mv ?_; refine reg_end (env' := [_, ⟨_, (.bool _)⟩]) ?_; refine wp_regseq ?_; refine r_mv ?_; refine r_geqI ?_; refine r_mv ?_; refine r_mv ?_; refine r_leqI ?_; refine r_and ?_; refine r_mv ?_; refine reg_end (env' := [_, ⟨_, (.bool _)⟩]) ?_; refine wp_ret ?_
  refine res_of trivial q2 q3 (Eq.trans q7 (congrArg D.bool ?_))
  rfl
def C440 (Γ : Ctx) : Prop := ∀ (n : Int), Γ.pre 440 [.int .i64 n] ∧ Γ.val 440 [.int .i64 n] = .bool (fitB n)
/-- linchpin/version.behind -/
def version_behind : AFunc := { np := 2, ns := 9, res := [⟨2, none⟩, ⟨3, none⟩], rsh := [[.a], [.a]], body := (.seq (.reg false [⟨.mv (.c (.str [])), none⟩, ⟨.mv (.c (.str [])), none⟩] [(2, 0), (3, 1)]) (.seq (.seq (.reg false [⟨.mv (.s 0), none⟩, ⟨.lenS (.l 0), none⟩, ⟨.mv (.c (.int .i64 0)), none⟩] [(5, 1), (4, 2)]) (.block 0 (.loop (.seq (.reg false [⟨.bin .lss (.s 4) (.s 5), none⟩] [(6, 0)]) (.seq (.cond (.s 6) .skip (.exit 0)) (.seq (.block 1 (.seq (.reg false [⟨.mv (.s 4), none⟩, ⟨.mv (.l 0), none⟩] [(7, 1)]) (.seq (.reg false [⟨.mv (.s 0), none⟩, ⟨.mv (.s 7), none⟩, ⟨.ixS (.l 0) (.l 1), none⟩, ⟨.mv (.s 1), none⟩, ⟨.bin .eql (.l 2) (.l 3), none⟩] [(8, 4)]) (.cond (.s 8) (.seq (.reg true [⟨.mv (.s 0), none⟩, ⟨.mv (.s 7), none⟩, ⟨.bin .add (.l 1) (.c (.int .i64 1)), none⟩, ⟨.slS (.l 0) (some (.l 2)) none, none⟩, ⟨.mv (.s 0), none⟩, ⟨.mv (.s 7), none⟩, ⟨.slS (.l 4) none (some (.l 5)), none⟩, ⟨.mv (.l 3), none⟩, ⟨.mv (.l 6), none⟩] [(2, 7), (3, 8)]) .ret) .skip)))) (.reg false [⟨.bin .add (.s 4) (.c (.int .i64 1)), none⟩, ⟨.mv (.l 0), none⟩] [(4, 1)]))))))) (.seq (.reg false [⟨.mv (.s 0), none⟩, ⟨.mv (.c (.str [])), none⟩, ⟨.mv (.l 0), none⟩] [(2, 1), (3, 2)]) .ret))) }
theorem w675 {Γ : Ctx} (hm : (Γ.at 0).Mono)  (s : Str) (b : Int)  : wpA (Γ.at 0) version_behind.body (Res version_behind (.tup [.str (behindL s b).1, .str (behindL s b).2]) : Ex → List Ent → St → Prop) (env0 version_behind [.str s, .int .u8 b]) ⟨0, []⟩ := by
  show wpA _ _ _ [⟨true, .str s⟩, ⟨true, .int .u8 b⟩, .un, .un, .un, .un, .un, .un, .un] ⟨0, []⟩
  refine wp_regseq ?_; refine r_mv ?_; refine r_mv ?_; refine reg_end (env' := [_, _, ⟨_, (.str _)⟩, ⟨_, (.str _)⟩, _, _, _, _, _]) ?_; refine wp_assoc ?_; refine wp_regseq ?_; refine r_mv ?_
  refine r_lenS fun hlR1_1 => ?_; replace hlR1_1 := hlR1_1 rfl rfl
  refine r_mv ?_; refine reg_end (env' := [_, _, _, _, ⟨_, (.int _ _)⟩, ⟨_, (.int _ _)⟩, _, _, _]) ?_
  refine wp_for hm (ι := Nat) (fun i => [⟨true, .str s⟩, ⟨true, .int .u8 b⟩, .un, .un, ⟨true, .int .i64 (i : Nat)⟩, ⟨true, .int .i64 (s.length : Nat)⟩, .un, .un, .un]) (fun i => []) 5 (fun i => i ≤ s.length ∧ behindL s b = behindX s b i) (fun i => s.length - i) 0 ⟨by omega, rfl⟩ (Ghost.to [] q7 q7 q4 q1) ?_
  rintro i ⟨hi, hr⟩
  refine wp_regseq ?_; refine r_lssI ?_; refine reg_end (env' := [_, _, _, _, _, _, ⟨_, (.bool _)⟩, _, _]) ?_
  refine wp_condseq (fun hc0 => ?_) (fun hc0 => ?_)
  · try simp only [b0, b1, b2, b3, b4, b5, b6, b7, b8, b9, b10, b11] at hc0
    refine wp_skipseq ?_
    refine wp_blockseq ?_ hm
    refine wp_regseq ?_; refine r_mv ?_; refine r_mv ?_; refine reg_end (env' := [_, _, _, _, _, _, _, ⟨_, (.int _ _)⟩, _]) ?_; refine wp_regseq ?_; refine r_mv ?_; refine r_mv ?_
    first | refine r_ixS _ ?_ | refine r_ixST ?_
    refine r_mv ?_; refine r_eqlI ?_; refine reg_end (env' := [_, _, _, _, _, _, _, _, ⟨_, (.bool _)⟩]) ?_
    refine wp_cond (fun hc1 => ?_) (fun hc1 => ?_)
    · try simp only [b0, b1, b2, b3, b4, b5, b6, b7, b8, b9, b10, b11] at hc1
      refine wp_regseq ?_; refine r_mv ?_; refine r_mv ?_; refine r_add64 ?_; refine r_slS_lo (i + 1) ?_; refine r_mv ?_; refine r_mv ?_; refine r_slS_hi _ ?_; refine r_mv ?_; refine r_mv ?_; refine reg_end (env' := [_, _, ⟨_, (.str _)⟩, ⟨_, (.str _)⟩, _, _, _, _, _]) ?_; refine wp_ret ?_; refine BQ.ret ?_; refine LQ.ret ?_
      refine res_of trivial q2 q3 (Eq.trans q7 (tup_eq2 (congrArg D.str ?_) (congrArg D.str ?_)))
      all_goals rw [hr, behindX_eq (by omega) hc1]
    · try simp only [b0, b1, b2, b3, b4, b5, b6, b7, b8, b9, b10, b11] at hc1
      refine wp_skip ?_; refine BQ.normal ?_; refine wp_reg ?_; refine r_add64 ?_; refine r_mv ?_; refine reg_fin (env' := [_, _, _, _, ⟨_, (.int _ _)⟩, _, _, _, _]) ?_; refine LQ.normal ?_
      exact ⟨i + 1, ⟨by omega, by rw [hr, behindX_ne (by omega) hc1]⟩, by omega, (Ghost.to [] q7 q7 q4 q1)⟩
  · try simp only [b0, b1, b2, b3, b4, b5, b6, b7, b8, b9, b10, b11] at hc0
    refine wp_exitseq ?_; refine LQ.out ?_; refine wp_regseq ?_; refine r_mv ?_; refine r_mv ?_; refine r_mv ?_; refine reg_end (env' := [_, _, ⟨_, (.str _)⟩, ⟨_, (.str _)⟩, _, _, _, _, _]) ?_; refine wp_ret ?_
    refine res_of trivial q2 q3 (Eq.trans q7 (tup_eq2 (congrArg D.str ?_) (congrArg D.str ?_)))
    all_goals rw [hr, behindX_end (by omega)]
def C675 (Γ : Ctx) : Prop := ∀ (s : Str) (b : Int), Γ.pre 675 [.str s, .int .u8 b] ∧ Γ.val 675 [.str s, .int .u8 b] = .tup [.str (behindL s b).1, .str (behindL s b).2]
/-- linchpin/version.tags -/
def version_tags : AFunc := { np := 1, ns := 15, res := [⟨1, none⟩], rsh := [[.a]], body := (.seq (.reg false [⟨.mv (.c (.bool false)), none⟩] [(1, 0)]) (.seq (.reg false [⟨.mv (.s 0), none⟩, ⟨.call 533 [(.l 0), (.c (.int .u8 46))] [[.a], [.a]], none⟩, ⟨.mv (.l 1), none⟩] [(2, 2)]) (.seq (.reg false [⟨.mv (.s 2), none⟩, ⟨.len (.l 0), none⟩, ⟨.bin .leq (.l 1) (.c (.int .i64 4)), none⟩, ⟨.mv (.l 2), none⟩] [(14, 3)]) (.seq .skip (.seq (.seq (.reg false [⟨.mv (.s 2), none⟩, ⟨.len (.l 0), none⟩, ⟨.mv (.c (.int .i64 0)), none⟩] [(6, 0), (4, 1), (3, 2)]) (.block 0 (.loop (.seq (.reg false [⟨.bin .lss (.s 3) (.s 4), none⟩] [(5, 0)]) (.seq (.cond (.s 5) .skip (.exit 0)) (.seq (.block 1 (.seq (.reg false [⟨.ia 1 (.s 6) (.s 3), none⟩, ⟨.ld 1 false (.l 0), none⟩, ⟨.mv (.l 1), none⟩] [(7, 2)]) (.seq (.seq (.reg false [⟨.mv (.s 7), none⟩, ⟨.bin .eql (.l 0) (.c (.str [])), none⟩, ⟨.mv (.l 1), none⟩, ⟨.mv (.s 7), some (2, false)⟩, ⟨.lenS (.l 3), some (2, false)⟩, ⟨.bin .gtr (.l 4) (.c (.int .i64 8)), some (2, false)⟩, ⟨.pick (.l 2) (.c (.bool true)) (.l 5), none⟩] [(8, 6)]) (.cond (.s 8) (.seq (.reg false [⟨.mv (.c (.bool false)), none⟩] [(14, 0)]) (.exit 0)) .skip)) (.seq (.reg false [⟨.mv (.s 7), none⟩, ⟨.rng (.l 0), none⟩] [(9, 1)]) (.block 2 (.loop (.seq (.reg false [⟨.nxt (.s 9), none⟩, ⟨.ext (.l 0) 0, none⟩] [(11, 0), (10, 1)]) (.seq (.cond (.s 10) .skip (.exit 2)) (.block 3 (.seq (.reg false [⟨.ext (.s 11) 2, none⟩, ⟨.mv (.l 0), none⟩] [(12, 1)]) (.seq (.reg false [⟨.mv (.s 12), none⟩, ⟨.bin .lss (.l 0) (.c (.int .i32 97)), none⟩, ⟨.mv (.l 1), none⟩, ⟨.mv (.s 12), some (2, false)⟩, ⟨.bin .gtr (.l 3) (.c (.int .i32 122)), some (2, false)⟩, ⟨.pick (.l 2) (.c (.bool true)) (.l 4), none⟩, ⟨.mv (.l 5), none⟩, ⟨.mv (.s 12), some (6, true)⟩, ⟨.bin .lss (.l 7) (.c (.int .i32 48)), some (6, true)⟩, ⟨.mv (.l 8), some (6, true)⟩, ⟨.mv (.s 12), some (9, false)⟩, ⟨.bin .gtr (.l 10) (.c (.int .i32 57)), some (9, false)⟩, ⟨.pick (.l 9) (.c (.bool true)) (.l 11), some (6, true)⟩, ⟨.pick (.l 6) (.l 12) (.c (.bool false)), none⟩, ⟨.mv (.l 13), none⟩, ⟨.mv (.s 12), some (14, true)⟩, ⟨.bin .neq (.l 15) (.c (.int .i32 45)), some (14, true)⟩, ⟨.pick (.l 14) (.l 16) (.c (.bool false)), none⟩] [(13, 17)]) (.cond (.s 13) (.seq (.reg false [⟨.mv (.c (.bool false)), none⟩] [(14, 0)]) (.exit 0)) .skip)))))))))))) (.reg false [⟨.bin .add (.s 3) (.c (.int .i64 1)), none⟩, ⟨.mv (.l 0), none⟩] [(3, 1)]))))))) (.seq (.reg false [⟨.mv (.s 14), none⟩, ⟨.mv (.l 0), none⟩] [(1, 1)]) .ret)))))) }
theorem w442 {Γ : Ctx} (hm : (Γ.at 0).Mono) (h533 : C533 (Γ.at 0)) (s : Str) (hp0 : s.length ≤ 1048576) : wpA (Γ.at 0) version_tags.body (Res version_tags (.bool (tagsP s false)) : Ex → List Ent → St → Prop) (env0 version_tags [.str s]) ⟨0, []⟩ := by
  show wpA _ _ _ [⟨true, .str s⟩, .un, .un, .un, .un, .un, .un, .un, .un, .un, .un, .un, .un, .un, .un] ⟨0, []⟩
  refine wp_regseq ?_; refine r_mv ?_; refine reg_end (env' := [_, ⟨_, (.bool _)⟩, _, _, _, _, _, _, _, _, _, _, _, _, _]) ?_; refine wp_regseq ?_; refine r_mv ?_
  refine r_call (hc := h533 _ _ ?_) ?_; rotate_left; first | assumption | omega; have hlen := splitL_len s 46
  refine r_mv ?_; refine reg_end (env' := [_, _, ⟨_, (.sl _ _)⟩, _, _, _, _, _, _, _, _, _, _, _, _]) ?_; refine wp_regseq ?_; refine r_mv ?_
  refine r_lenM fun hlR2_1 => ?_; replace hlR2_1 := hlR2_1 rfl rfl
  refine r_leqI ?_; refine r_mv ?_; refine reg_end (env' := [_, _, _, _, _, _, _, _, _, _, _, _, _, _, ⟨_, (.bool _)⟩]) ?_; refine wp_skipseq ?_; refine wp_assoc ?_; refine wp_regseq ?_; refine r_mv ?_
  refine r_lenM fun hlR3_1 => ?_; replace hlR3_1 := hlR3_1 rfl rfl
  refine r_mv ?_; refine reg_end (env' := [_, _, _, ⟨_, (.int _ _)⟩, ⟨_, (.int _ _)⟩, _, ⟨_, (.sl _ _)⟩, _, _, _, _, _, _, _, _]) ?_
  refine wp_for hm (ι := Nat) (fun i => [.un, .un, ⟨true, .sl 1 ((splitL s 46).map D.str)⟩, ⟨true, .int .i64 (i : Nat)⟩, ⟨true, .int .i64 ((splitL s 46).length : Nat)⟩, .un, ⟨true, .sl 1 ((splitL s 46).map D.str)⟩, .un, .un, .un, .un, .un, .un, .un, ⟨true, .bool (decide (((splitL s 46).length : Int) ≤ 4))⟩]) (fun i => []) 11 (fun i => i ≤ (splitL s 46).length ∧ tagsP s false = (decide ((splitL s 46).length ≤ 4) && allF (fun i => tagOK false (splitL s 46)[i]!) i (splitL s 46).length)) (fun i => (splitL s 46).length - i) 0 ⟨by omega, rfl⟩ (Ghost.to [] q7 q7 q4 q1) ?_
  rintro i ⟨hi, hr⟩
  refine wp_regseq ?_; refine r_lssI ?_; refine reg_end (env' := [_, _, _, _, _, ⟨_, (.bool _)⟩, _, _, _, _, _, _, _, _, _]) ?_
  refine wp_condseq (fun hc0 => ?_) (fun hc0 => ?_)
  · try simp only [b0, b1, b2, b3, b4, b5, b6, b7, b8, b9, b10, b11] at hc0
    refine wp_skipseq ?_
    refine wp_blockseq ?_ hm
    refine wp_regseq ?_
    first | refine r_iaM _ ?_ | refine r_iaMT ?_
    first | refine r_ldR (v := (.str _)) ?_ | refine r_ldQ (v := (.str _)) ?_
    refine r_mv ?_; refine reg_end (env' := [_, _, _, _, _, _, _, ⟨_, (.str _)⟩, _, _, _, _, _, _, _]) ?_; refine wp_assoc ?_; refine wp_regseq ?_
    generalize ht : (splitL s 46)[i]! = t
    refine r_mv ?_; refine r_eqlS ?_; refine r_mv ?_; refine r_mv ?_
    refine r_lenS fun _ => ?_
    refine r_gtrI ?_; refine r_or ?_; refine reg_end (env' := [_, _, _, _, _, _, _, _, ⟨_, (.bool _)⟩, _, _, _, _, _, _]) ?_
    refine wp_condseq (fun hc1 => ?_) (fun hc1 => ?_)
    · try simp only [b0, b1, b2, b3, b4, b5, b6, b7, b8, b9, b10, b11] at hc1
      refine wp_assoc ?_; refine wp_regseq ?_; refine r_mv ?_; refine reg_end (env' := [_, _, _, _, _, _, _, _, _, _, _, _, _, _, ⟨_, (.bool _)⟩]) ?_; refine wp_exitseq ?_; refine BQ.other q7 ?_; refine LQ.out ?_; refine wp_regseq ?_; refine r_mv ?_; refine r_mv ?_; refine reg_end (env' := [_, ⟨_, (.bool _)⟩, _, _, _, _, _, _, _, _, _, _, _, _, _]) ?_; refine wp_ret ?_
      refine res_of trivial q2 q3 (Eq.trans q7 (congrArg D.bool ?_))
      first
        | (rw [hr, allF_ge (by omega), Bool.and_true]; exact decide_eq_decide.2 (by omega))
        | (have hb : tagB t = false := by
            first
            | (simp only [tagB]; rcases hc1 with h | h
               · subst h; simp
               · rw [decide_eq_false (by omega : ¬ t.length ≤ 8)]; simp)
            | (have hz : tch (at8 t j) = false := by
                 rcases hcw with ⟨_, h, _⟩ | ⟨_, h⟩ <;> (simp only [tch, lowB, digitB, Bool.or_eq_false_iff, Bool.and_eq_false_iff, decide_eq_false_iff_not]; omega)
               rw [hj, allF_lt hnx, hz]; rfl)
           rw [hr, allF_lt (by omega), show tagOK false (splitL s 46)[i]! = false from (by simp only [tagOK, ht, hb, Bool.false_and])]; simp)
    · try simp only [b0, b1, b2, b3, b4, b5, b6, b7, b8, b9, b10, b11] at hc1
      refine wp_skipseq ?_; refine wp_regseq ?_; refine r_mv ?_; refine r_rng ?_; refine reg_end (env' := [_, _, _, _, _, _, _, _, _, ⟨_, _⟩, _, _, _, _, _]) ?_
      have hT : tagB t = allF (fun i => tch (at8 t i)) 0 t.length := by
        have := List.length_pos_iff.2 hc1.1
        simp only [tagB]; rw [decide_eq_true (by omega), decide_eq_true (by omega)]; rfl
      refine wp_forL hm (ι := Nat) (fun j => [.un, .un, ⟨true, .sl 1 ((splitL s 46).map D.str)⟩, ⟨true, .int .i64 (i : Nat)⟩, ⟨true, .int .i64 ((splitL s 46).length : Nat)⟩, .un, ⟨true, .sl 1 ((splitL s 46).map D.str)⟩, .un, .un, ⟨true, .it 23⟩, .un, .un, .un, .un, ⟨true, .bool (decide (((splitL s 46).length : Int) ≤ 4))⟩]) (fun j => [(23, .iter t j)]) 24 (fun j => j ≤ t.length ∧ tagB t = allF (fun i => tch (at8 t i)) j t.length) (fun j => t.length - j) 0 ⟨by omega, hT⟩ (Ghost.to [(23, 23)] q7 q7 q4 q1) ?_
      rintro j ⟨hj0, hj⟩
      refine wp_regseq ?_
      by_cases hnx : j < t.length
      · obtain ⟨c, w, hdec, hw, hcw⟩ := dec_spec t j hnx
        refine r_nxt1 c w (hp := hnx) (hc := hdec) ?_; refine r_ext (.bool _) ?_; refine reg_end (env' := [_, _, _, _, _, _, _, _, _, _, ⟨_, (.bool _)⟩, ⟨_, _⟩, _, _, _]) ?_
        refine wp_condseq (t := true) (fun _ => ?_) (fun h => by cases h)
        refine wp_skipseq ?_
        refine wp_blockL ?_ hm
        refine wp_regseq ?_; refine r_ext (.int _ _) ?_; refine r_mv ?_; refine reg_end (env' := [_, _, _, _, _, _, _, _, _, _, _, _, ⟨_, (.int _ _)⟩, _, _]) ?_; refine wp_regseq ?_; refine r_mv ?_; refine r_lssI ?_; refine r_mv ?_; refine r_mv ?_; refine r_gtrI ?_; refine r_or ?_; refine r_mv ?_; refine r_mv ?_; refine r_lssI ?_; refine r_mv ?_; refine r_mv ?_; refine r_gtrI ?_; refine r_or ?_; refine r_and ?_; refine r_mv ?_; refine r_mv ?_; refine r_neqI ?_; refine r_and ?_; refine reg_end (env' := [_, _, _, _, _, _, _, _, _, _, _, _, _, ⟨_, (.bool _)⟩, _]) ?_
        refine wp_cond (fun hc3 => ?_) (fun hc3 => ?_)
        · try simp only [b0, b1, b2, b3, b4, b5, b6, b7, b8, b9, b10, b11] at hc3
          refine wp_regseq ?_; refine r_mv ?_; refine reg_end (env' := [_, _, _, _, _, _, _, _, _, _, _, _, _, _, ⟨_, (.bool _)⟩]) ?_; refine wp_exit ?_
          refine BQ0.other q7 ?_
          refine LQ0.other q7 ?_
          refine BQ.other q7 ?_; refine LQ.out ?_; refine wp_regseq ?_; refine r_mv ?_; refine r_mv ?_; refine reg_end (env' := [_, ⟨_, (.bool _)⟩, _, _, _, _, _, _, _, _, _, _, _, _, _]) ?_; refine wp_ret ?_
          refine res_of trivial q2 q3 (Eq.trans q7 (congrArg D.bool ?_))
          first
            | (rw [hr, allF_ge (by omega), Bool.and_true]; exact decide_eq_decide.2 (by omega))
            | (have hb : tagB t = false := by
                first
                | (simp only [tagB]; rcases hc1 with h | h
                   · subst h; simp
                   · rw [decide_eq_false (by omega : ¬ t.length ≤ 8)]; simp)
                | (have hz : tch (at8 t j) = false := by
                     rcases hcw with ⟨_, h, _⟩ | ⟨_, h⟩ <;> (simp only [tch, lowB, digitB, Bool.or_eq_false_iff, Bool.and_eq_false_iff, decide_eq_false_iff_not]; omega)
                   rw [hj, allF_lt hnx, hz]; rfl)
               rw [hr, allF_lt (by omega), show tagOK false (splitL s 46)[i]! = false from (by simp only [tagOK, ht, hb, Bool.false_and])]; simp)
        · try simp only [b0, b1, b2, b3, b4, b5, b6, b7, b8, b9, b10, b11] at hc3
          refine wp_skip ?_
          refine BQ0.normal ?_
          refine LQ0.normal ?_
          obtain ⟨rfl, hat, -⟩ : w = 1 ∧ (c : Int) = at8 t j ∧ c < 128 := by
            rcases hcw with h | h
            · exact h
            · omega
          have hz : tch (at8 t j) = true := by
            simp only [tch, lowB, digitB, Bool.or_eq_true, Bool.and_eq_true, decide_eq_true_eq]; omega
          exact ⟨j + 1, ⟨by omega, by rw [hj, allF_lt hnx, hz]; rfl⟩, by omega, (Ghost.to [(23, 23)] q7 q7 q4 q1)⟩
      · refine r_nxt0 (hp := hnx) ?_; refine r_ext (.bool _) ?_; refine reg_end (env' := [_, _, _, _, _, _, _, _, _, _, ⟨_, (.bool _)⟩, ⟨_, _⟩, _, _, _]) ?_
        refine wp_condseq (t := false) (fun h => by cases h) (fun _ => ?_)
        refine wp_exitseq ?_
        refine LQ0.out ?_
        refine BQ.normal ?_; refine wp_reg ?_; refine r_add64 ?_; refine r_mv ?_; refine reg_fin (env' := [_, _, _, ⟨_, (.int _ _)⟩, _, _, _, _, _, _, _, _, _, _, _]) ?_; refine LQ.normal ?_
        exact ⟨i + 1, ⟨by omega, by rw [hr, allF_lt (by omega)]; rw [show tagOK false (splitL s 46)[i]! = true from (by simp only [tagOK, Bool.false_and, Bool.not_false, Bool.and_true]; rw [ht, hj, allF_ge (by omega)])]; rfl⟩, by omega, (Ghost.to [] q7 q7 q4 q1)⟩
  · try simp only [b0, b1, b2, b3, b4, b5, b6, b7, b8, b9, b10, b11] at hc0
    refine wp_exitseq ?_; refine LQ.out ?_; refine wp_regseq ?_; refine r_mv ?_; refine r_mv ?_; refine reg_end (env' := [_, ⟨_, (.bool _)⟩, _, _, _, _, _, _, _, _, _, _, _, _, _]) ?_; refine wp_ret ?_
    refine res_of trivial q2 q3 (Eq.trans q7 (congrArg D.bool ?_))
    first
      | (rw [hr, allF_ge (by omega), Bool.and_true]; exact decide_eq_decide.2 (by omega))
      | (have hb : tagB t = false := by
          first
          | (simp only [tagB]; rcases hc1 with h | h
             · subst h; simp
             · rw [decide_eq_false (by omega : ¬ t.length ≤ 8)]; simp)
          | (have hz : tch (at8 t j) = false := by
               rcases hcw with ⟨_, h, _⟩ | ⟨_, h⟩ <;> (simp only [tch, lowB, digitB, Bool.or_eq_false_iff, Bool.and_eq_false_iff, decide_eq_false_iff_not]; omega)
             rw [hj, allF_lt hnx, hz]; rfl)
         rw [hr, allF_lt (by omega), show tagOK false (splitL s 46)[i]! = false from (by simp only [tagOK, ht, hb, Bool.false_and])]; simp)
def C442 (Γ : Ctx) : Prop := ∀ (s : Str), (s.length ≤ 1048576) → Γ.pre 442 [.str s] ∧ Γ.val 442 [.str s] = .bool (tagsP s false)
end Go.Abs
end
