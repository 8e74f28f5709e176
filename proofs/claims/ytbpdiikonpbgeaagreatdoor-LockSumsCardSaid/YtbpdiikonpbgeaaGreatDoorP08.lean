/- A part of the proofs of the statements of package linchpinlaw33: T8, T9, T10, T11, T12. -/
import Derived.Test.YtbpdiikonpbgeaaGreatDoorP07
set_option linter.all false
section
namespace Go.Abs
open Go
/-- linchpin/version.pre -/
def version_pre : AFunc := { np := 1, ns := 10, res := [⟨1, none⟩], rsh := [[.a]], body := (.seq (.reg false [⟨.mv (.c (.bool false)), none⟩] [(1, 0)]) (.seq (.seq (.reg false [⟨.mv (.s 0), none⟩, ⟨.call 442 [(.l 0)] [[.a]], none⟩, ⟨.un .not (.l 1), none⟩] [(2, 2)]) (.cond (.s 2) (.seq (.reg false [⟨.mv (.c (.bool false)), none⟩] [(1, 0)]) .ret) .skip)) (.seq (.seq (.reg false [⟨.mv (.s 0), none⟩, ⟨.call 533 [(.l 0), (.c (.int .u8 46))] [[.a], [.a]], none⟩, ⟨.len (.l 1), none⟩, ⟨.mv (.c (.int .i64 0)), none⟩] [(6, 1), (4, 2), (3, 3)]) (.block 0 (.loop (.seq (.reg false [⟨.bin .lss (.s 3) (.s 4), none⟩] [(5, 0)]) (.seq (.cond (.s 5) .skip (.exit 0)) (.seq (.block 1 (.seq (.reg false [⟨.ia 1 (.s 6) (.s 3), none⟩, ⟨.ld 1 false (.l 0), none⟩, ⟨.mv (.l 1), none⟩] [(7, 2)]) (.seq (.reg false [⟨.mv (.s 7), none⟩, ⟨.call 658 [(.l 0)] [[.a]], none⟩, ⟨.mv (.l 1), none⟩, ⟨.ext (.l 2) 0, none⟩, ⟨.ext (.l 2) 1, none⟩, ⟨.mv (.l 3), none⟩, ⟨.mv (.l 4), none⟩] [(8, 6)]) (.seq (.reg false [⟨.mv (.s 7), none⟩, ⟨.call 659 [(.l 0)] [[.a]], none⟩, ⟨.mv (.l 1), none⟩, ⟨.mv (.s 8), some (2, true)⟩, ⟨.un .not (.l 3), some (2, true)⟩, ⟨.pick (.l 2) (.l 4) (.c (.bool false)), none⟩] [(9, 5)]) (.cond (.s 9) (.seq (.reg false [⟨.mv (.c (.bool false)), none⟩] [(1, 0)]) .ret) .skip))))) (.reg false [⟨.bin .add (.s 3) (.c (.int .i64 1)), none⟩, ⟨.mv (.l 0), none⟩] [(3, 1)]))))))) (.seq (.reg false [⟨.mv (.c (.bool true)), none⟩] [(1, 0)]) .ret)))) }
theorem w441 {Γ : Ctx} (hm : (Γ.at 0).Mono) (h442 : C442 (Γ.at 0)) (h533 : C533 (Γ.at 0)) (h658 : C658 (Γ.at 0)) (h659 : C659 (Γ.at 0)) (s : Str) (hp0 : s.length ≤ 1048576) : wpA (Γ.at 0) version_pre.body (Res version_pre (.bool (tagsP s true)) : Ex → List Ent → St → Prop) (env0 version_pre [.str s]) ⟨0, []⟩ := by
  show wpA _ _ _ [⟨true, .str s⟩, .un, .un, .un, .un, .un, .un, .un, .un, .un] ⟨0, []⟩
  refine wp_regseq ?_; refine r_mv ?_; refine reg_end (env' := [_, ⟨_, (.bool _)⟩, _, _, _, _, _, _, _, _]) ?_; refine wp_assoc ?_; refine wp_regseq ?_; refine r_mv ?_
  refine r_call (hc := h442 _ ?_) ?_; rotate_left; first | assumption | omega
  refine r_not ?_; refine reg_end (env' := [_, _, ⟨_, (.bool _)⟩, _, _, _, _, _, _, _]) ?_
  refine wp_condseq (fun hc0 => ?_) (fun hc0 => ?_)
  · simp only [Bool.not_eq_true'] at hc0
    refine wp_assoc ?_; refine wp_regseq ?_; refine r_mv ?_; refine reg_end (env' := [_, ⟨_, (.bool _)⟩, _, _, _, _, _, _, _, _]) ?_; refine wp_retseq ?_
    refine res_of trivial q2 q3 (Eq.trans q7 (congrArg D.bool ?_))
    symm
    simp only [tagsP] at hc0 ⊢
    rw [Bool.and_eq_false_iff] at hc0 ⊢
    rcases hc0 with h | h
    · exact Or.inl h
    · right
      rw [Bool.eq_false_iff] at h ⊢
      intro h2; apply h
      rw [allF_iff] at h2 ⊢
      intro j a b
      have := h2 j a b
      simp only [tagOK, Bool.and_eq_true] at this ⊢
      exact ⟨this.1, rfl⟩
  · simp only [Bool.not_eq_false'] at hc0
    refine wp_skipseq ?_; refine wp_assoc ?_; refine wp_regseq ?_; refine r_mv ?_
    refine r_call (hc := h533 _ _ ?_) ?_; rotate_left; first | assumption | omega; have hlen := splitL_len s 46
    refine r_lenM fun hlR3_2 => ?_; replace hlR3_2 := hlR3_2 rfl rfl
    refine r_mv ?_; refine reg_end (env' := [_, _, _, ⟨_, (.int _ _)⟩, ⟨_, (.int _ _)⟩, _, ⟨_, (.sl _ _)⟩, _, _, _]) ?_
    have hT := hc0
    simp only [tagsP, Bool.and_eq_true, decide_eq_true_eq] at hT
    obtain ⟨hT4, hTa⟩ := hT
    rw [allF_iff] at hTa
    have hP : tagsP s true = allF (fun i => tagOK true (splitL s 46)[i]!) 0 (splitL s 46).length := by
      simp only [tagsP]; rw [decide_eq_true hT4]; rfl
    refine wp_for hm (ι := Nat) (fun i => [.un, .un, .un, ⟨true, .int .i64 (i : Nat)⟩, ⟨true, .int .i64 ((splitL s 46).length : Nat)⟩, .un, ⟨true, .sl 1 ((splitL s 46).map D.str)⟩, .un, .un, .un]) (fun i => []) 8 (fun i => i ≤ (splitL s 46).length ∧ tagsP s true = allF (fun i => tagOK true (splitL s 46)[i]!) i (splitL s 46).length) (fun i => (splitL s 46).length - i) 0 ⟨by omega, hP⟩ (Ghost.to [] q7 q7 q4 q1) ?_
    rintro i ⟨hi, hr⟩
    refine wp_regseq ?_; refine r_lssI ?_; refine reg_end (env' := [_, _, _, _, _, ⟨_, (.bool _)⟩, _, _, _, _]) ?_
    refine wp_condseq (fun hc1 => ?_) (fun hc1 => ?_)
    · try simp only [b0, b1, b2, b3, b4, b5, b6, b7, b8, b9, b10, b11] at hc1
      refine wp_skipseq ?_
      refine wp_blockseq ?_ hm
      refine wp_regseq ?_
      first | refine r_iaM _ ?_ | refine r_iaMT ?_
      first | refine r_ldR (v := (.str _)) ?_ | refine r_ldQ (v := (.str _)) ?_
      refine r_mv ?_; refine reg_end (env' := [_, _, _, _, _, _, _, ⟨_, (.str _)⟩, _, _]) ?_; refine wp_regseq ?_; refine r_mv ?_; refine r_call (hc := h658 _) ?_; refine r_mv ?_; refine r_ext (.int _ _) ?_; refine r_ext (.bool _) ?_; refine r_mv ?_; refine r_mv ?_; refine reg_end (env' := [_, _, _, _, _, _, _, _, ⟨_, (.bool _)⟩, _]) ?_; refine wp_regseq ?_; refine r_mv ?_; refine r_call (hc := h659 _) ?_; refine r_mv ?_; refine r_mv ?_; refine r_not ?_; refine r_and ?_; refine reg_end (env' := [_, _, _, _, _, _, _, _, _, ⟨_, (.bool _)⟩]) ?_
      refine wp_cond (fun hc2 => ?_) (fun hc2 => ?_)
      · skip
        refine wp_regseq ?_; refine r_mv ?_; refine reg_end (env' := [_, ⟨_, (.bool _)⟩, _, _, _, _, _, _, _, _]) ?_; refine wp_ret ?_; refine BQ.ret ?_; refine LQ.ret ?_
        refine res_of trivial q2 q3 (Eq.trans q7 (congrArg D.bool ?_))
        have hz : tagOK true (splitL s 46)[i]! = false := by
          simp only [tagOK]
          revert hc2
          generalize tagB (splitL s 46)[i]! = c
          generalize numericB (splitL s 46)[i]! = a
          generalize numB (splitL s 46)[i]! = b
          cases a <;> cases b <;> cases c <;> simp
        rw [hr, allF_lt (by omega), hz]; rfl
      · skip
        refine wp_skip ?_; refine BQ.normal ?_; refine wp_reg ?_; refine r_add64 ?_; refine r_mv ?_; refine reg_fin (env' := [_, _, _, ⟨_, (.int _ _)⟩, _, _, _, _, _, _]) ?_; refine LQ.normal ?_
        have hz : tagOK true (splitL s 46)[i]! = true := by
          have := hTa i (by omega) (by omega)
          simp only [tagOK, Bool.false_and, Bool.not_false, Bool.and_true] at this
          simp only [tagOK, this]
          revert hc2
          generalize numericB (splitL s 46)[i]! = a
          generalize numB (splitL s 46)[i]! = b
          cases a <;> cases b <;> simp
        exact ⟨i + 1, ⟨by omega, by rw [hr, allF_lt (by omega), hz]; rfl⟩, by omega, (Ghost.to [] q7 q7 q4 q1)⟩
    · try simp only [b0, b1, b2, b3, b4, b5, b6, b7, b8, b9, b10, b11] at hc1
      refine wp_exitseq ?_; refine LQ.out ?_; refine wp_regseq ?_; refine r_mv ?_; refine reg_end (env' := [_, ⟨_, (.bool _)⟩, _, _, _, _, _, _, _, _]) ?_; refine wp_ret ?_
      refine res_of trivial q2 q3 (Eq.trans q7 (congrArg D.bool ?_))
      rw [hr, allF_ge (by omega)]
def C441 (Γ : Ctx) : Prop := ∀ (s : Str), (s.length ≤ 1048576) → Γ.pre 441 [.str s] ∧ Γ.val 441 [.str s] = .bool (tagsP s true)
/-- linchpin/version.May -/
def version_May : AFunc := { np := 1, ns := 3, res := [⟨1, none⟩], rsh := [[.a]], body := (.seq (.reg false [⟨.box 5 (.s 0), none⟩, ⟨.mv (.c (.bool false)), none⟩] [(2, 0), (1, 1)]) (.seq (.reg false [⟨.fa 0 (.s 2), none⟩, ⟨.ld 1 false (.l 0), none⟩, ⟨.call 440 [(.l 1)] [[.a]], none⟩, ⟨.mv (.l 2), none⟩, ⟨.fa 1 (.s 2), some (3, true)⟩, ⟨.ld 1 false (.l 4), some (3, true)⟩, ⟨.call 440 [(.l 5)] [[.a]], some (3, true)⟩, ⟨.pick (.l 3) (.l 6) (.c (.bool false)), none⟩, ⟨.mv (.l 7), none⟩, ⟨.fa 2 (.s 2), some (8, true)⟩, ⟨.ld 1 false (.l 9), some (8, true)⟩, ⟨.call 440 [(.l 10)] [[.a]], some (8, true)⟩, ⟨.pick (.l 8) (.l 11) (.c (.bool false)), none⟩, ⟨.mv (.l 12), none⟩, ⟨.fa 3 (.s 2), some (13, true)⟩, ⟨.ld 1 false (.l 14), some (13, true)⟩, ⟨.bin .eql (.l 15) (.c (.str [])), some (13, true)⟩, ⟨.mv (.l 16), some (13, true)⟩, ⟨.fa 3 (.s 2), some (17, false)⟩, ⟨.ld 1 false (.l 18), some (17, false)⟩, ⟨.call 441 [(.l 19)] [[.a]], some (17, false)⟩, ⟨.pick (.l 17) (.c (.bool true)) (.l 20), some (13, true)⟩, ⟨.pick (.l 13) (.l 21) (.c (.bool false)), none⟩, ⟨.mv (.l 22), none⟩, ⟨.fa 4 (.s 2), some (23, true)⟩, ⟨.ld 1 false (.l 24), some (23, true)⟩, ⟨.bin .eql (.l 25) (.c (.str [])), some (23, true)⟩, ⟨.mv (.l 26), some (23, true)⟩, ⟨.fa 4 (.s 2), some (27, false)⟩, ⟨.ld 1 false (.l 28), some (27, false)⟩, ⟨.call 442 [(.l 29)] [[.a]], some (27, false)⟩, ⟨.pick (.l 27) (.c (.bool true)) (.l 30), some (23, true)⟩, ⟨.pick (.l 23) (.l 31) (.c (.bool false)), none⟩, ⟨.mv (.l 32), none⟩] [(1, 33)]) .ret)) }
theorem w209 {Γ : Ctx} (hm : (Γ.at 0).Mono) (h440 : C440 (Γ.at 0)) (h441 : C441 (Γ.at 0)) (h442 : C442 (Γ.at 0)) (v : Ver) (hp0 : v.sm) : wpA (Γ.at 0) version_May.body (Res version_May (.bool (verB v)) : Ex → List Ent → St → Prop) (env0 version_May [Ver.D v]) ⟨0, []⟩ := by
  show wpA _ _ _ [⟨true, Ver.D v⟩, .un, .un] ⟨0, []⟩
  refine wp_regseq ?_; refine r_box ?_; refine r_mv ?_; refine reg_end (env' := [_, ⟨_, (.bool _)⟩, ⟨_, _⟩]) ?_; refine wp_regseq ?_; refine r_faP ?_; refine r_ldF (v := (.int _ _)) ?_; refine r_call (hc := h440 _) ?_; refine r_mv ?_; refine r_faP ?_; refine r_ldF (v := (.int _ _)) ?_; refine r_call (hc := h440 _) ?_; refine r_and ?_; refine r_mv ?_; refine r_faP ?_; refine r_ldF (v := (.int _ _)) ?_; refine r_call (hc := h440 _) ?_; refine r_and ?_; refine r_mv ?_; refine r_faP ?_; refine r_ldF (v := (.str _)) ?_; refine r_eqlS ?_; refine r_mv ?_; refine r_faP ?_; refine r_ldF (v := (.str _)) ?_
  refine r_callG (hc := fun hf => h441 v.pre hp0.1) ?_
  refine r_or ?_; refine r_and ?_; refine r_mv ?_; refine r_faP ?_; refine r_ldF (v := (.str _)) ?_; refine r_eqlS ?_; refine r_mv ?_; refine r_faP ?_; refine r_ldF (v := (.str _)) ?_
  refine r_callG (hc := fun hf => h442 v.build hp0.2) ?_
  refine r_or ?_; refine r_and ?_; refine r_mv ?_; refine reg_end (env' := [_, ⟨_, (.bool _)⟩, _]) ?_; refine wp_ret ?_
  refine res_of trivial q2 q3 (Eq.trans q7 (congrArg D.bool ?_))
  rfl
def C209 (Γ : Ctx) : Prop := ∀ (v : Ver), (v.sm) → Γ.pre 209 [Ver.D v] ∧ Γ.val 209 [Ver.D v] = .bool (verB v)
/-- linchpin/ident.Digits -/
def ident_Digits : AFunc := { np := 1, ns := 2, res := [⟨1, none⟩], rsh := [[.a]], body := (.seq (.reg false [⟨.mv (.c (.str [])), none⟩] [(1, 0)]) (.seq (.reg false [⟨.mv (.s 0), none⟩, ⟨.call 336 [(.l 0)] [[.a]], none⟩, ⟨.mv (.l 1), none⟩] [(1, 2)]) .ret)) }
theorem w665 {Γ : Ctx} (hm : (Γ.at 0).Mono) (h336 : C336 (Γ.at 0)) (n : Int) (hp0 : 0 ≤ n ∧ n ≤ 9999) : wpA (Γ.at 0) ident_Digits.body (Res ident_Digits (.str (decN n.toNat)) : Ex → List Ent → St → Prop) (env0 ident_Digits [.int .i64 n]) ⟨0, []⟩ := by
  show wpA _ _ _ [⟨true, .int .i64 n⟩, .un] ⟨0, []⟩
  refine wp_regseq ?_; refine r_mv ?_; refine reg_end (env' := [_, ⟨_, (.str _)⟩]) ?_; refine wp_regseq ?_; refine r_mv ?_
  refine r_call (hc := h336 _ ?_) ?_; rotate_left; first | assumption | omega
  refine r_mv ?_; refine reg_end (env' := [_, ⟨_, (.str _)⟩]) ?_; refine wp_ret ?_
  refine res_of trivial q2 q3 (Eq.trans q7 (congrArg D.str ?_))
  rfl
def C665 (Γ : Ctx) : Prop := ∀ (n : Int), (0 ≤ n ∧ n ≤ 9999) → Γ.pre 665 [.int .i64 n] ∧ Γ.val 665 [.int .i64 n] = .str (decN n.toNat)
/-- linchpin/version.Print -/
def version_Print : AFunc := { np := 1, ns := 7, res := [⟨1, none⟩], rsh := [[.a]], body := (.seq (.reg false [⟨.box 5 (.s 0), none⟩, ⟨.mv (.c (.str [])), none⟩] [(2, 0), (1, 1)]) (.seq (.seq (.reg false [⟨.ld 5 true (.s 2), none⟩, ⟨.call 209 [(.l 0)] [[.a, .a, .a, .a, .a]], none⟩, ⟨.un .not (.l 1), none⟩] [(3, 2)]) (.cond (.s 3) (.seq (.reg false [⟨.mv (.c (.str [])), none⟩] [(1, 0)]) .ret) .skip)) (.seq (.reg true [⟨.fa 0 (.s 2), none⟩, ⟨.ld 1 false (.l 0), none⟩, ⟨.call 665 [(.l 1)] [[.a]], none⟩, ⟨.bin .add (.l 2) (.c (.str [46])), none⟩, ⟨.fa 1 (.s 2), none⟩, ⟨.ld 1 false (.l 4), none⟩, ⟨.call 665 [(.l 5)] [[.a]], none⟩, ⟨.bin .add (.l 3) (.l 6), none⟩, ⟨.bin .add (.l 7) (.c (.str [46])), none⟩, ⟨.fa 2 (.s 2), none⟩, ⟨.ld 1 false (.l 9), none⟩, ⟨.call 665 [(.l 10)] [[.a]], none⟩, ⟨.bin .add (.l 8) (.l 11), none⟩, ⟨.mv (.l 12), none⟩] [(5, 13)]) (.seq (.seq (.reg false [⟨.fa 3 (.s 2), none⟩, ⟨.ld 1 false (.l 0), none⟩, ⟨.bin .neq (.l 1) (.c (.str [])), none⟩] [(4, 2)]) (.cond (.s 4) (.reg false [⟨.mv (.s 5), none⟩, ⟨.fa 3 (.s 2), none⟩, ⟨.ld 1 false (.l 1), none⟩, ⟨.bin .add (.c (.str [45])) (.l 2), none⟩, ⟨.bin .add (.l 0) (.l 3), none⟩, ⟨.mv (.l 4), none⟩] [(5, 5)]) .skip)) (.seq (.seq (.reg false [⟨.fa 4 (.s 2), none⟩, ⟨.ld 1 false (.l 0), none⟩, ⟨.bin .neq (.l 1) (.c (.str [])), none⟩] [(6, 2)]) (.cond (.s 6) (.reg false [⟨.mv (.s 5), none⟩, ⟨.fa 4 (.s 2), none⟩, ⟨.ld 1 false (.l 1), none⟩, ⟨.bin .add (.c (.str [43])) (.l 2), none⟩, ⟨.bin .add (.l 0) (.l 3), none⟩, ⟨.mv (.l 4), none⟩] [(5, 5)]) .skip)) (.seq (.reg false [⟨.mv (.s 5), none⟩, ⟨.mv (.l 0), none⟩] [(1, 1)]) .ret)))))) }
theorem w451 {Γ : Ctx} (hm : (Γ.at 0).Mono) (h209 : C209 (Γ.at 0)) (h665 : C665 (Γ.at 0)) (v : Ver) (hp0 : v.sm) : wpA (Γ.at 0) version_Print.body (Res version_Print (.str (verP v)) : Ex → List Ent → St → Prop) (env0 version_Print [Ver.D v]) ⟨0, []⟩ := by
  show wpA _ _ _ [⟨true, Ver.D v⟩, .un, .un, .un, .un, .un, .un] ⟨0, []⟩
  obtain ⟨hs1, hs2⟩ := hp0
  have hp0 : v.sm := ⟨hs1, hs2⟩
  refine wp_regseq ?_; refine r_box ?_; refine r_mv ?_; refine reg_end (env' := [_, ⟨_, (.str _)⟩, ⟨_, _⟩, _, _, _, _]) ?_; refine wp_assoc ?_; refine wp_regseq ?_; refine r_ldB ?_
  refine r_call (hc := h209 _ ?_) ?_; rotate_left; first | assumption | omega
  refine r_not ?_; refine reg_end (env' := [_, _, _, ⟨_, (.bool _)⟩, _, _, _]) ?_
  refine wp_condseq (fun hc0 => ?_) (fun hc0 => ?_)
  · simp only [Bool.not_eq_true'] at hc0
    refine wp_assoc ?_; refine wp_regseq ?_; refine r_mv ?_; refine reg_end (env' := [_, ⟨_, (.str _)⟩, _, _, _, _, _]) ?_; refine wp_retseq ?_
    refine res_of trivial q2 q3 (Eq.trans q7 (congrArg D.str ?_))
    simp [verP, hc0]
  · simp only [Bool.not_eq_false'] at hc0
    refine wp_skipseq ?_; refine wp_regseq ?_
    have hv := hc0
    simp only [verB, Bool.and_eq_true] at hv
    obtain ⟨⟨⟨⟨hv1, hv2⟩, hv3⟩, _⟩, _⟩ := hv
    have hq1 := hv1; have hq2 := hv2; have hq3 := hv3
    simp only [fitB, Bool.and_eq_true, decide_eq_true_eq] at hq1 hq2 hq3
    have hl1 := decN_len 4 v.major.toNat (by omega) (by omega)
    have hl2 := decN_len 4 v.minor.toNat (by omega) (by omega)
    have hl3 := decN_len 4 v.patch.toNat (by omega) (by omega)
    refine r_faP ?_; refine r_ldF (v := (.int _ _)) ?_
    refine r_call (hc := h665 _ ?_) ?_; rotate_left; first | assumption | omega
    refine r_addS (hb := fun _ => by simp; omega) ?_
    refine r_faP ?_; refine r_ldF (v := (.int _ _)) ?_
    refine r_call (hc := h665 _ ?_) ?_; rotate_left; first | assumption | omega
    refine r_addS (hb := fun _ => by simp; omega) ?_
    refine r_addS (hb := fun _ => by simp; omega) ?_
    refine r_faP ?_; refine r_ldF (v := (.int _ _)) ?_
    refine r_call (hc := h665 _ ?_) ?_; rotate_left; first | assumption | omega
    refine r_addS (hb := fun _ => by simp; omega) ?_
    refine r_mv ?_; refine reg_end (env' := [_, _, _, _, _, ⟨_, (.str _)⟩, _]) ?_; refine wp_assoc ?_; refine wp_regseq ?_; refine r_faP ?_; refine r_ldF (v := (.str _)) ?_; refine r_neqS ?_; refine reg_end (env' := [_, _, _, _, ⟨_, (.bool _)⟩, _, _]) ?_
    refine wp_condseq (fun hc1 => ?_) (fun hc1 => ?_)
    · try simp only [b0, b1, b2, b3, b4, b5, b6, b7, b8, b9, b10, b11] at hc1
      refine wp_regseq ?_; refine r_mv ?_; refine r_faP ?_; refine r_ldF (v := (.str _)) ?_
      refine r_addS (hb := fun _ => by simp; omega) ?_
      refine r_addS (hb := fun _ => by simp; omega) ?_
      refine r_mv ?_; refine reg_end (env' := [_, _, _, _, _, ⟨_, (.str _)⟩, _]) ?_; refine wp_assoc ?_; refine wp_regseq ?_; refine r_faP ?_; refine r_ldF (v := (.str _)) ?_; refine r_neqS ?_; refine reg_end (env' := [_, _, _, _, _, _, ⟨_, (.bool _)⟩]) ?_
      refine wp_condseq (fun hc2 => ?_) (fun hc2 => ?_)
      · try simp only [b0, b1, b2, b3, b4, b5, b6, b7, b8, b9, b10, b11] at hc2
        refine wp_regseq ?_; refine r_mv ?_; refine r_faP ?_; refine r_ldF (v := (.str _)) ?_
        refine r_addS (hb := fun _ => by simp; omega) ?_
        refine r_addS (hb := fun _ => by simp; omega) ?_
        refine r_mv ?_; refine reg_end (env' := [_, _, _, _, _, ⟨_, (.str _)⟩, _]) ?_; refine wp_regseq ?_; refine r_mv ?_; refine r_mv ?_; refine reg_end (env' := [_, ⟨_, (.str _)⟩, _, _, _, _, _]) ?_; refine wp_ret ?_
        refine res_of trivial q2 q3 (Eq.trans q7 (congrArg D.str ?_))
        simp [verP, verS, hc0, hc1, hc2]
      · try simp only [b0, b1, b2, b3, b4, b5, b6, b7, b8, b9, b10, b11] at hc2
        refine wp_skipseq ?_; refine wp_regseq ?_; refine r_mv ?_; refine r_mv ?_; refine reg_end (env' := [_, ⟨_, (.str _)⟩, _, _, _, _, _]) ?_; refine wp_ret ?_
        refine res_of trivial q2 q3 (Eq.trans q7 (congrArg D.str ?_))
        simp [verP, verS, hc0, hc1, hc2]
    · try simp only [b0, b1, b2, b3, b4, b5, b6, b7, b8, b9, b10, b11] at hc1
      refine wp_skipseq ?_; refine wp_assoc ?_; refine wp_regseq ?_; refine r_faP ?_; refine r_ldF (v := (.str _)) ?_; refine r_neqS ?_; refine reg_end (env' := [_, _, _, _, _, _, ⟨_, (.bool _)⟩]) ?_
      refine wp_condseq (fun hc2 => ?_) (fun hc2 => ?_)
      · try simp only [b0, b1, b2, b3, b4, b5, b6, b7, b8, b9, b10, b11] at hc2
        refine wp_regseq ?_; refine r_mv ?_; refine r_faP ?_; refine r_ldF (v := (.str _)) ?_
        refine r_addS (hb := fun _ => by simp; omega) ?_
        refine r_addS (hb := fun _ => by simp; omega) ?_
        refine r_mv ?_; refine reg_end (env' := [_, _, _, _, _, ⟨_, (.str _)⟩, _]) ?_; refine wp_regseq ?_; refine r_mv ?_; refine r_mv ?_; refine reg_end (env' := [_, ⟨_, (.str _)⟩, _, _, _, _, _]) ?_; refine wp_ret ?_
        refine res_of trivial q2 q3 (Eq.trans q7 (congrArg D.str ?_))
        simp [verP, verS, hc0, hc1, hc2]
      · try simp only [b0, b1, b2, b3, b4, b5, b6, b7, b8, b9, b10, b11] at hc2
        refine wp_skipseq ?_; refine wp_regseq ?_; refine r_mv ?_; refine r_mv ?_; refine reg_end (env' := [_, ⟨_, (.str _)⟩, _, _, _, _, _]) ?_; refine wp_ret ?_
        refine res_of trivial q2 q3 (Eq.trans q7 (congrArg D.str ?_))
        simp [verP, verS, hc0, hc1, hc2]
def C451 (Γ : Ctx) : Prop := ∀ (v : Ver), (v.sm) → Γ.pre 451 [Ver.D v] ∧ Γ.val 451 [Ver.D v] = .str (verP v)
/-- math/bits.RotateLeft64 -/
def math_bits_RotateLeft64 : AFunc := { np := 2, ns := 4, res := [⟨2, none⟩], rsh := [[.a]], body := (.seq (.reg false [⟨.mv (.c (.int .u64 0)), none⟩] [(2, 0)]) (.seq (.reg false [⟨.mv (.s 1), none⟩, ⟨.cvi .u64 (.l 0), none⟩, ⟨.bin .and (.l 1) (.c (.int .u64 63)), none⟩, ⟨.mv (.l 2), none⟩] [(3, 3)]) (.seq (.reg false [⟨.mv (.s 0), none⟩, ⟨.mv (.s 3), none⟩, ⟨.bin .shl (.l 0) (.l 1), none⟩, ⟨.mv (.s 0), none⟩, ⟨.mv (.s 3), none⟩, ⟨.bin .sub (.c (.int .u64 64)) (.l 4), none⟩, ⟨.bin .shr (.l 3) (.l 5), none⟩, ⟨.bin .or (.l 2) (.l 6), none⟩, ⟨.mv (.l 7), none⟩] [(2, 8)]) .ret))) }
theorem w463 {Γ : Ctx} (hm : (Γ.at 0).Mono)  (h : Int) (k : Nat) (hp0 : k = 13) : wpA (Γ.at 0) math_bits_RotateLeft64.body (Res math_bits_RotateLeft64 (.int .u64 (rot h k)) : Ex → List Ent → St → Prop) (env0 math_bits_RotateLeft64 [.int .u64 h, .int .i64 (k : Nat)]) ⟨0, []⟩ := by
  show wpA _ _ _ [⟨true, .int .u64 h⟩, ⟨true, .int .i64 (k : Nat)⟩, .un, .un] ⟨0, []⟩
  subst hp0
  refine wp_regseq ?_; refine r_mv ?_; refine reg_end (env' := [_, _, ⟨_, (.int _ _)⟩, _]) ?_; refine wp_regseq ?_; refine r_mv ?_
  refine r_cvi 13 (hb := fun _ => by rw [IntKind.wrap_u64]; rfl) ?_
  refine r_band 13 (hb := fun _ => by rw [IntKind.wrap_u64]; rfl) ?_
  refine r_mv ?_; refine reg_end (env' := [_, _, _, ⟨_, (.int _ _)⟩]) ?_; refine wp_regseq ?_; refine r_mv ?_; refine r_mv ?_
  refine r_shl (shl64 h 13) (hb := fun _ => by rw [show min (Int.toNat (13 : Int)) (IntKind.bits .u64) = 13 by simp [IntKind.bits]]; rfl) ?_
  refine r_mv ?_; refine r_mv ?_
  refine r_subK 51 (hb := fun _ => by rw [IntKind.wrap_u64]; rfl) ?_
  refine r_shr (shr64 h 51) (hb := fun _ => by rw [show min (Int.toNat (51 : Int)) (IntKind.bits .u64) = 51 by simp [IntKind.bits]]; rfl) ?_
  refine r_bor (rot h 13) (hb := fun _ => rfl) ?_
  refine r_mv ?_; refine reg_end (env' := [_, _, ⟨_, (.int _ _)⟩, _]) ?_; refine wp_ret ?_
  refine res_of trivial q2 q3 (Eq.trans q7 (congrArg (D.int .u64) ?_))
  rfl
def C463 (Γ : Ctx) : Prop := ∀ (h : Int) (k : Nat), (k = 13) → Γ.pre 463 [.int .u64 h, .int .i64 (k : Nat)] ∧ Γ.val 463 [.int .u64 h, .int .i64 (k : Nat)] = .int .u64 (rot h k)
/-- linchpin/digest.Sum -/
def digest_Sum : AFunc := { np := 1, ns := 8, res := [⟨1, none⟩], rsh := [[.a]], body := (.seq (.reg false [⟨.mv (.c (.int .u64 0)), none⟩] [(1, 0)]) (.seq (.reg false [⟨.mv (.c (.int .u64 11400714819323198485)), none⟩] [(6, 0)]) (.seq (.seq (.reg false [⟨.mv (.s 0), none⟩, ⟨.len (.l 0), none⟩, ⟨.mv (.c (.int .i64 0)), none⟩] [(5, 0), (3, 1), (2, 2)]) (.block 0 (.loop (.seq (.reg false [⟨.bin .lss (.s 2) (.s 3), none⟩] [(4, 0)]) (.seq (.cond (.s 4) .skip (.exit 0)) (.seq (.block 1 (.seq (.reg false [⟨.ia 1 (.s 5) (.s 2), none⟩, ⟨.ld 1 false (.l 0), none⟩, ⟨.mv (.l 1), none⟩] [(7, 2)]) (.reg false [⟨.mv (.s 6), none⟩, ⟨.mv (.s 7), none⟩, ⟨.cvi .u64 (.l 1), none⟩, ⟨.bin .xor (.l 0) (.l 2), none⟩, ⟨.call 463 [(.l 3), (.c (.int .i64 13))] [[.a], [.a]], none⟩, ⟨.bin .mul (.l 4) (.c (.int .u64 18397679294719823053)), none⟩, ⟨.mv (.l 5), none⟩] [(6, 6)]))) (.reg false [⟨.bin .add (.s 2) (.c (.int .i64 1)), none⟩, ⟨.mv (.l 0), none⟩] [(2, 1)]))))))) (.seq (.reg false [⟨.mv (.s 6), none⟩, ⟨.mv (.s 6), none⟩, ⟨.bin .shr (.l 1) (.c (.int .u64 29)), none⟩, ⟨.bin .xor (.l 0) (.l 2), none⟩, ⟨.mv (.l 3), none⟩] [(1, 4)]) .ret)))) }
theorem w220 {Γ : Ctx} (hm : (Γ.at 0).Mono) (h463 : C463 (Γ.at 0)) (s : Str)  : wpA (Γ.at 0) digest_Sum.body (Res digest_Sum (.int .u64 (sumL s)) : Ex → List Ent → St → Prop) (env0 digest_Sum [.sl 1 ((s).map fun b => D.int .u8 b.toNat)]) ⟨0, []⟩ := by
  show wpA _ _ _ [⟨true, .sl 1 (s.map fun b => D.int .u8 b.toNat)⟩, .un, .un, .un, .un, .un, .un, .un] ⟨0, []⟩
  refine wp_regseq ?_; refine r_mv ?_; refine reg_end (env' := [_, ⟨_, (.int _ _)⟩, _, _, _, _, _, _]) ?_; refine wp_regseq ?_; refine r_mv ?_; refine reg_end (env' := [_, _, _, _, _, _, ⟨_, (.int _ _)⟩, _]) ?_; refine wp_assoc ?_; refine wp_regseq ?_; refine r_mv ?_
  refine r_lenM fun hlR2_1 => ?_; replace hlR2_1 := hlR2_1 rfl rfl
  refine r_mv ?_; refine reg_end (env' := [_, _, ⟨_, (.int _ _)⟩, ⟨_, (.int _ _)⟩, _, ⟨_, (.sl _ _)⟩, _, _]) ?_
  refine wp_for hm (ι := Nat) (fun i => [.un, .un, ⟨true, .int .i64 (i : Nat)⟩, ⟨true, .int .i64 (s.length : Nat)⟩, .un, ⟨true, .sl 1 (s.map fun b => D.int .u8 b.toNat)⟩, ⟨true, .int .u64 (sumF (s.take i))⟩, .un]) (fun i => []) 5 (fun i => i ≤ s.length) (fun i => s.length - i) 0 (by omega) (Ghost.to [] q7 q7 q4 q1) ?_
  intro i hi
  refine wp_regseq ?_; refine r_lssI ?_; refine reg_end (env' := [_, _, _, _, ⟨_, (.bool _)⟩, _, _, _]) ?_
  refine wp_condseq (fun hc0 => ?_) (fun hc0 => ?_)
  · try simp only [b0, b1, b2, b3, b4, b5, b6, b7, b8, b9, b10, b11] at hc0
    refine wp_skipseq ?_
    refine wp_blockseq ?_ hm
    refine wp_regseq ?_
    first | refine r_iaM _ ?_ | refine r_iaMT ?_
    refine r_ldR (v := .int .u8 (at8 s i)) (hv := fun _ => ld8 s i) ?_
    refine r_mv ?_; refine reg_end (env' := [_, _, _, _, _, _, _, ⟨_, (.int _ _)⟩]) ?_; refine wp_reg ?_; refine r_mv ?_; refine r_mv ?_
    refine r_cvi (at8 s i) (hb := fun _ => by have := at8_lt s i; rw [IntKind.wrap_u64]; omega) ?_
    refine r_bxor (xor64 (sumF (s.take i)) (at8 s i)) (hb := fun _ => rfl) ?_
    refine r_call (hc := h463 _ 13 rfl) ?_
    refine r_mulK (sumF (s.take (i + 1))) (hb := fun _ => by rw [sumF_succ s i (by omega)]; rfl) ?_
    refine r_mv ?_; refine reg_fin (env' := [_, _, _, _, _, _, ⟨_, (.int _ _)⟩, _]) ?_; refine BQ.normal ?_; refine wp_reg ?_; refine r_add64 ?_; refine r_mv ?_; refine reg_fin (env' := [_, _, ⟨_, (.int _ _)⟩, _, _, _, _, _]) ?_; refine LQ.normal ?_
    exact ⟨i + 1, (by omega), by omega, (Ghost.to [] q7 q7 q4 q1)⟩
  · try simp only [b0, b1, b2, b3, b4, b5, b6, b7, b8, b9, b10, b11] at hc0
    refine wp_exitseq ?_; refine LQ.out ?_; refine wp_regseq ?_
    have ht : s.take i = s := List.take_of_length_le (by omega)
    rw [ht]
    refine r_mv ?_; refine r_mv ?_
    refine r_shr (shr64 (sumF s) 29) (hb := fun _ => rfl) ?_
    refine r_bxor (sumL s) (hb := fun _ => rfl) ?_
    refine r_mv ?_; refine reg_end (env' := [_, ⟨_, (.int _ _)⟩, _, _, _, _, _, _]) ?_; refine wp_ret ?_
    refine res_of trivial q2 q3 (Eq.trans q7 (congrArg (D.int .u64) ?_))
    rfl
def C220 (Γ : Ctx) : Prop := ∀ (s : Str), Γ.pre 220 [.sl 1 ((s).map fun b => D.int .u8 b.toNat)] ∧ Γ.val 220 [.sl 1 ((s).map fun b => D.int .u8 b.toNat)] = .int .u64 (sumL s)
end Go.Abs
end
section
namespace Go.Abs
open Go
/-- linchpin/mark.EnvMay -/
def mark_EnvMay : AFunc := { np := 1, ns := 8, res := [⟨1, none⟩], rsh := [[.a]], body := (.seq (.reg false [⟨.box 3 (.s 0), none⟩, ⟨.mv (.c (.bool false)), none⟩] [(2, 0), (1, 1)]) (.seq (.seq (.reg false [⟨.fa 0 (.s 2), none⟩, ⟨.ld 3 true (.l 0), none⟩, ⟨.mv (.c (.int .i64 0)), none⟩] [(5, 1), (3, 2)]) (.block 0 (.loop (.seq (.reg false [⟨.bin .lss (.s 3) (.c (.int .i64 3)), none⟩] [(4, 0)]) (.seq (.cond (.s 4) .skip (.exit 0)) (.seq (.block 1 (.seq (.reg false [⟨.ixA 3 1 false (.s 5) (.s 3), none⟩, ⟨.mv (.l 0), none⟩] [(6, 1)]) (.seq (.reg false [⟨.mv (.s 6), none⟩, ⟨.bin .neq (.l 0) (.c (.str [])), none⟩, ⟨.mv (.l 1), none⟩, ⟨.mv (.s 6), some (2, true)⟩, ⟨.call 349 [(.l 3)] [[.a]], some (2, true)⟩, ⟨.un .not (.l 4), some (2, true)⟩, ⟨.pick (.l 2) (.l 5) (.c (.bool false)), none⟩] [(7, 6)]) (.cond (.s 7) (.seq (.reg false [⟨.mv (.c (.bool false)), none⟩] [(1, 0)]) .ret) .skip)))) (.reg false [⟨.bin .add (.s 3) (.c (.int .i64 1)), none⟩, ⟨.mv (.l 0), none⟩] [(3, 1)]))))))) (.seq (.reg false [⟨.mv (.c (.bool true)), none⟩] [(1, 0)]) .ret))) }
theorem w138 {Γ : Ctx} (hm : (Γ.at 0).Mono) (h349 : C349 (Γ.at 0)) (e : Env)  : wpA (Γ.at 0) mark_EnvMay.body (Res mark_EnvMay (.bool (envB e)) : Ex → List Ent → St → Prop) (env0 mark_EnvMay [Env.D e]) ⟨0, []⟩ := by
  show wpA _ _ _ [⟨true, Env.D e⟩, .un, .un, .un, .un, .un, .un, .un] ⟨0, []⟩
  refine wp_regseq ?_; refine r_box ?_; refine r_mv ?_; refine reg_end (env' := [_, ⟨_, (.bool _)⟩, ⟨_, _⟩, _, _, _, _, _]) ?_; refine wp_assoc ?_; refine wp_regseq ?_; refine r_faP ?_; refine r_ldB ?_; refine r_mv ?_; refine reg_end (env' := [_, _, _, ⟨_, (.int _ _)⟩, _, ⟨_, (Env.D _)⟩, _, _]) ?_
  refine wp_for hm (ι := Nat) (fun i => [.un, .un, ⟨true, .ptr 0 3 0 0⟩, ⟨true, .int .i64 (i : Nat)⟩, .un, ⟨true, Env.D e⟩, .un, .un]) (fun i => [(0, .buf 3 [Env.D e])]) 5 (fun i => i ≤ 3 ∧ envB e = allF (fun i => decide (e.at i = []) || wordB (e.at i)) i 3) (fun i => 3 - i) 0 ⟨by omega, rfl⟩ (Ghost.to [(0, 0)] q7 q7 q4 q1) ?_
  rintro i ⟨hi, hr⟩
  refine wp_regseq ?_; refine r_lssI ?_; refine reg_end (env' := [_, _, _, _, ⟨_, (.bool _)⟩, _, _, _]) ?_
  refine wp_condseq (fun hc0 => ?_) (fun hc0 => ?_)
  · try simp only [b0, b1, b2, b3, b4, b5, b6, b7, b8, b9, b10, b11] at hc0
    refine wp_skipseq ?_
    refine wp_blockseq ?_ hm
    refine wp_regseq ?_
    refine r_ixA i (.str (e.at i)) (hv := fun _ => Env.cut e (by omega)) ?_
    refine r_mv ?_; refine reg_end (env' := [_, _, _, _, _, _, ⟨_, (.str _)⟩, _]) ?_; refine wp_regseq ?_; refine r_mv ?_; refine r_neqS ?_; refine r_mv ?_; refine r_mv ?_; refine r_call (hc := h349 _) ?_; refine r_not ?_; refine r_and ?_; refine reg_end (env' := [_, _, _, _, _, _, _, ⟨_, (.bool _)⟩]) ?_
    refine wp_cond (fun hc1 => ?_) (fun hc1 => ?_)
    · simp only [Bool.and_eq_true, Bool.not_eq_true', decide_eq_false_iff_not] at hc1
      refine wp_regseq ?_; refine r_mv ?_; refine reg_end (env' := [_, ⟨_, (.bool _)⟩, _, _, _, _, _, _]) ?_; refine wp_ret ?_; refine BQ.ret ?_; refine LQ.ret ?_
      refine res_of trivial q2 q3 (Eq.trans q7 (congrArg D.bool ?_))
      rw [hr, allF_lt (by omega)]; rw [decide_eq_false hc1.1, hc1.2]; rfl
    · simp only [Bool.and_eq_false_iff, Bool.not_eq_false', decide_eq_true_eq] at hc1
      refine wp_skip ?_; refine BQ.normal ?_; refine wp_reg ?_; refine r_add64 ?_; refine r_mv ?_; refine reg_fin (env' := [_, _, _, ⟨_, (.int _ _)⟩, _, _, _, _]) ?_; refine LQ.normal ?_
      exact ⟨i + 1, ⟨by omega, by rw [hr, allF_lt (by omega)]; rw [show (decide (e.at i = []) || wordB (e.at i)) = true by rw [Bool.or_eq_true, decide_eq_true_eq]; exact hc1]; rfl⟩, by omega, (Ghost.to [(0, 0)] q7 q7 q4 q1)⟩
  · try simp only [b0, b1, b2, b3, b4, b5, b6, b7, b8, b9, b10, b11] at hc0
    refine wp_exitseq ?_; refine LQ.out ?_; refine wp_regseq ?_; refine r_mv ?_; refine reg_end (env' := [_, ⟨_, (.bool _)⟩, _, _, _, _, _, _]) ?_; refine wp_ret ?_
    refine res_of trivial q2 q3 (Eq.trans q7 (congrArg D.bool ?_))
    rw [hr, allF_ge (by omega)]
def C138 (Γ : Ctx) : Prop := ∀ (e : Env), Γ.pre 138 [Env.D e] ∧ Γ.val 138 [Env.D e] = .bool (envB e)
/-- (linchpin/lock.line).may -/
def lock_line_may : AFunc := { np := 1, ns := 11, res := [⟨1, none⟩], rsh := [[.a]], body := (.seq (.reg false [⟨.box 9 (.s 0), none⟩, ⟨.mv (.c (.bool false)), none⟩] [(2, 0), (1, 1)]) (.seq (.seq (.reg false [⟨.fa 0 (.s 2), none⟩, ⟨.fa 8 (.l 0), none⟩, ⟨.ld 1 false (.l 1), none⟩, ⟨.len (.l 2), none⟩, ⟨.mv (.c (.int .i64 0)), none⟩] [(6, 2), (4, 3), (3, 4)]) (.block 0 (.loop (.seq (.reg false [⟨.bin .lss (.s 3) (.s 4), none⟩] [(5, 0)]) (.seq (.cond (.s 5) .skip (.exit 0)) (.seq (.block 1 (.seq (.reg false [⟨.mv (.s 3), none⟩, ⟨.ia 1 (.s 6) (.s 3), none⟩, ⟨.ld 1 false (.l 1), none⟩, ⟨.mv (.l 0), none⟩, ⟨.mv (.l 2), none⟩] [(8, 3), (7, 4)]) (.seq (.reg false [⟨.mv (.s 7), none⟩, ⟨.call 349 [(.l 0)] [[.a]], none⟩, ⟨.un .not (.l 1), none⟩, ⟨.mv (.l 2), none⟩, ⟨.mv (.s 8), some (3, false)⟩, ⟨.bin .gtr (.l 4) (.c (.int .i64 0)), some (3, false)⟩, ⟨.mv (.l 5), some (3, false)⟩, ⟨.fa 0 (.s 2), some (6, true)⟩, ⟨.fa 8 (.l 7), some (6, true)⟩, ⟨.ld 1 false (.l 8), some (6, true)⟩, ⟨.mv (.s 8), some (6, true)⟩, ⟨.bin .sub (.l 10) (.c (.int .i64 1)), some (6, true)⟩, ⟨.ia 1 (.l 9) (.l 11), some (6, true)⟩, ⟨.ld 1 false (.l 12), some (6, true)⟩, ⟨.mv (.s 7), some (6, true)⟩, ⟨.bin .geq (.l 13) (.l 14), some (6, true)⟩, ⟨.pick (.l 6) (.l 15) (.c (.bool false)), some (3, false)⟩, ⟨.pick (.l 3) (.c (.bool true)) (.l 16), none⟩] [(9, 17)]) (.cond (.s 9) (.seq (.reg false [⟨.mv (.c (.bool false)), none⟩] [(1, 0)]) .ret) .skip)))) (.reg false [⟨.bin .add (.s 3) (.c (.int .i64 1)), none⟩, ⟨.mv (.l 0), none⟩] [(3, 1)]))))))) (.seq (.reg false [⟨.fa 0 (.s 2), none⟩, ⟨.fa 6 (.l 0), none⟩, ⟨.ld 1 false (.l 1), none⟩, ⟨.bin .eql (.l 2) (.c (.str [])), none⟩, ⟨.mv (.l 3), none⟩, ⟨.fa 0 (.s 2), some (4, true)⟩, ⟨.fa 7 (.l 5), some (4, true)⟩, ⟨.ld 1 false (.l 6), some (4, true)⟩, ⟨.bin .eql (.l 7) (.c (.int .u64 0)), some (4, true)⟩, ⟨.pick (.l 4) (.l 8) (.c (.bool false)), none⟩, ⟨.mv (.l 9), none⟩, ⟨.fa 0 (.s 2), some (10, false)⟩, ⟨.fa 6 (.l 11), some (10, false)⟩, ⟨.ld 1 false (.l 12), some (10, false)⟩, ⟨.call 208 [(.l 13)] [[.a]], some (10, false)⟩, ⟨.pick (.l 10) (.c (.bool true)) (.l 14), none⟩, ⟨.mv (.l 15), none⟩] [(10, 16)]) (.seq (.reg false [⟨.mv (.s 10), none⟩, ⟨.mv (.l 0), none⟩, ⟨.fa 0 (.s 2), some (1, true)⟩, ⟨.fa 0 (.l 2), some (1, true)⟩, ⟨.ld 1 false (.l 3), some (1, true)⟩, ⟨.call 208 [(.l 4)] [[.a]], some (1, true)⟩, ⟨.pick (.l 1) (.l 5) (.c (.bool false)), none⟩, ⟨.mv (.l 6), none⟩, ⟨.fa 0 (.s 2), some (7, true)⟩, ⟨.fa 1 (.l 8), some (7, true)⟩, ⟨.ld 5 true (.l 9), some (7, true)⟩, ⟨.call 209 [(.l 10)] [[.a, .a, .a, .a, .a]], some (7, true)⟩, ⟨.pick (.l 7) (.l 11) (.c (.bool false)), none⟩, ⟨.mv (.l 12), none⟩, ⟨.fa 0 (.s 2), some (13, true)⟩, ⟨.fa 8 (.l 14), some (13, true)⟩, ⟨.ld 1 false (.l 15), some (13, true)⟩, ⟨.len (.l 16), some (13, true)⟩, ⟨.bin .leq (.l 17) (.c (.int .i64 9)), some (13, true)⟩, ⟨.pick (.l 13) (.l 18) (.c (.bool false)), none⟩, ⟨.mv (.l 19), none⟩] [(1, 20)]) .ret)))) }
theorem w553 {Γ : Ctx} (hm : (Γ.at 0).Mono) (h208 : C208 (Γ.at 0)) (h209 : C209 (Γ.at 0)) (h349 : C349 (Γ.at 0)) (x : Lkd) (hp0 : x.sm) : wpA (Γ.at 0) lock_line_may.body (Res lock_line_may (.bool (lkdB x)) : Ex → List Ent → St → Prop) (env0 lock_line_may [Lkd.D x]) ⟨0, []⟩ := by
  show wpA _ _ _ [⟨true, Lkd.D x⟩, .un, .un, .un, .un, .un, .un, .un, .un, .un, .un] ⟨0, []⟩
  refine wp_regseq ?_; refine r_box ?_; refine r_mv ?_; refine reg_end (env' := [_, ⟨_, (.bool _)⟩, ⟨_, _⟩, _, _, _, _, _, _, _, _]) ?_; refine wp_assoc ?_; refine wp_regseq ?_; refine r_faP ?_; refine r_faP ?_
  first | refine r_ldF (v := .sl _ _) ?_ | refine r_ldF (v := .own _ _ _ _) ?_ | refine r_ldF (v := .nils) ?_
  refine r_lenM fun hlR1_3 => ?_; replace hlR1_3 := hlR1_3 rfl rfl
  refine r_mv ?_; refine reg_end (env' := [_, _, _, ⟨_, (.int _ _)⟩, ⟨_, (.int _ _)⟩, _, ⟨_, (.sl _ _)⟩, _, _, _, _]) ?_
  refine wp_for hm (ι := Nat) (fun i => [.un, .un, ⟨true, .ptr 0 9 0 0⟩, ⟨true, .int .i64 (i : Nat)⟩, ⟨true, .int .i64 (x.feats.length : Nat)⟩, .un, ⟨true, .sl 1 (x.feats.map D.str)⟩, .un, .un, .un, .un]) (fun i => [(0, .buf 9 [Lkd.D x])]) 7 (fun i => i ≤ x.feats.length ∧ allF (featB x.feats) 0 x.feats.length = allF (featB x.feats) i x.feats.length) (fun i => x.feats.length - i) 0 ⟨by omega, rfl⟩ (Ghost.to [(0, 0)] q7 q7 q4 q1) ?_
  rintro i ⟨hi, hr⟩
  refine wp_regseq ?_; refine r_lssI ?_; refine reg_end (env' := [_, _, _, _, _, ⟨_, (.bool _)⟩, _, _, _, _, _]) ?_
  refine wp_condseq (fun hc0 => ?_) (fun hc0 => ?_)
  · try simp only [b0, b1, b2, b3, b4, b5, b6, b7, b8, b9, b10, b11] at hc0
    refine wp_skipseq ?_
    refine wp_blockseq ?_ hm
    refine wp_regseq ?_; refine r_mv ?_
    first | refine r_iaM _ ?_ | refine r_iaMT ?_
    first | refine r_ldR (v := (.str _)) ?_ | refine r_ldQ (v := (.str _)) ?_
    refine r_mv ?_; refine r_mv ?_; refine reg_end (env' := [_, _, _, _, _, _, _, ⟨_, (.str _)⟩, ⟨_, (.int _ _)⟩, _, _]) ?_; refine wp_regseq ?_; refine r_mv ?_; refine r_call (hc := h349 _) ?_; refine r_not ?_; refine r_mv ?_; refine r_mv ?_; refine r_gtrI ?_; refine r_mv ?_; refine r_faP ?_; refine r_faP ?_
    first | refine r_ldF (v := .sl _ _) ?_ | refine r_ldF (v := .own _ _ _ _) ?_ | refine r_ldF (v := .nils) ?_
    refine r_mv ?_; refine r_sub64 ?_; refine r_iaM (i - 1) ?_
    first | refine r_ldR (v := (.str _)) ?_ | refine r_ldQ (v := (.str _)) ?_
    refine r_mv ?_; refine r_geqS ?_; refine r_and ?_; refine r_or ?_; refine reg_end (env' := [_, _, _, _, _, _, _, _, _, ⟨_, (.bool _)⟩, _]) ?_
    refine wp_cond (fun hc1 => ?_) (fun hc1 => ?_)
    · try simp only [b0, b1, b2, b3, b4, b5, b6, b7, b8, b9, b10, b11] at hc1
      refine wp_regseq ?_; refine r_mv ?_; refine reg_end (env' := [_, ⟨_, (.bool _)⟩, _, _, _, _, _, _, _, _, _]) ?_; refine wp_ret ?_; refine BQ.ret ?_; refine LQ.ret ?_
      refine res_of trivial q2 q3 (Eq.trans q7 (congrArg D.bool ?_))
      have hz : featB x.feats i = false := by
        simp only [featB]
        revert hc1
        generalize wordB x.feats[i]! = z0
        generalize Op.bytesLess x.feats[i - 1]! x.feats[i]! = z1
        by_cases e0 : 0 < i <;> cases z0 <;> cases z1 <;> simp_all
      simp only [lkdB]; rw [hr, allF_lt (by omega), hz]; simp
    · try simp only [b0, b1, b2, b3, b4, b5, b6, b7, b8, b9, b10, b11] at hc1
      refine wp_skip ?_; refine BQ.normal ?_; refine wp_reg ?_; refine r_add64 ?_; refine r_mv ?_; refine reg_fin (env' := [_, _, _, ⟨_, (.int _ _)⟩, _, _, _, _, _, _, _]) ?_; refine LQ.normal ?_
      have hz : featB x.feats i = true := by
        simp only [featB]
        revert hc1
        generalize wordB x.feats[i]! = z0
        generalize Op.bytesLess x.feats[i - 1]! x.feats[i]! = z1
        by_cases e0 : 0 < i <;> cases z0 <;> cases z1 <;> simp_all
      exact ⟨i + 1, ⟨by omega, by rw [hr, allF_lt (by omega), hz]; rfl⟩, by omega, (Ghost.to [(0, 0)] q7 q7 q4 q1)⟩
  · try simp only [b0, b1, b2, b3, b4, b5, b6, b7, b8, b9, b10, b11] at hc0
    refine wp_exitseq ?_; refine LQ.out ?_; refine wp_regseq ?_; refine r_faP ?_; refine r_faP ?_; refine r_ldF (v := (.str _)) ?_; refine r_eqlS ?_; refine r_mv ?_; refine r_faP ?_; refine r_faP ?_; refine r_ldF (v := (.int _ _)) ?_; refine r_eqlI ?_; refine r_and ?_; refine r_mv ?_; refine r_faP ?_; refine r_faP ?_; refine r_ldF (v := (.str _)) ?_; refine r_call (hc := h208 _) ?_; refine r_or ?_; refine r_mv ?_; refine reg_end (env' := [_, _, _, _, _, _, _, _, _, _, ⟨_, (.bool _)⟩]) ?_; refine wp_regseq ?_; refine r_mv ?_; refine r_mv ?_; refine r_faP ?_; refine r_faP ?_; refine r_ldF (v := (.str _)) ?_
    refine r_call (hc := h208 _) ?_; refine r_and ?_; refine r_mv ?_; refine r_faP ?_; refine r_faP ?_; refine r_ldF (v := (Ver.D _)) ?_
    refine r_callG (hc := fun hf => h209 x.v hp0.1) ?_
    refine r_and ?_; refine r_mv ?_; refine r_faP ?_; refine r_faP ?_
    first | refine r_ldF (v := .sl _ _) ?_ | refine r_ldF (v := .own _ _ _ _) ?_ | refine r_ldF (v := .nils) ?_
    refine r_lenM fun _ => ?_
    refine r_leqI ?_; refine r_and ?_; refine r_mv ?_; refine reg_end (env' := [_, ⟨_, (.bool _)⟩, _, _, _, _, _, _, _, _, _]) ?_; refine wp_ret ?_
    refine res_of trivial q2 q3 (Eq.trans q7 (congrArg D.bool ?_))
    simp only [lkdB]; rw [hr, allF_ge (by omega)]
    have h9 : decide ((x.feats.length : Int) ≤ 9) = decide (x.feats.length ≤ 9) := decide_eq_decide.2 (by omega)
    rw [h9]
    have hc : x.shelf = [] → nameB x.shelf = false := by intro e; rw [e]; rfl
    revert hc
    generalize nameB x.name = a
    generalize verB x.v = b
    generalize nameB x.shelf = c
    generalize decide (x.feats.length ≤ 9) = d
    by_cases e : x.shelf = [] <;> by_cases e2 : x.sum = 0 <;> cases a <;> cases b <;> cases c <;> cases d <;> simp_all
def C553 (Γ : Ctx) : Prop := ∀ (x : Lkd), (x.sm) → Γ.pre 553 [Lkd.D x] ∧ Γ.val 553 [Lkd.D x] = .bool (lkdB x)
end Go.Abs
end
section
namespace Go.Abs
open Go
/-- linchpin/lock.May -/
def lock_May : AFunc := { np := 1, ns := 10, res := [⟨1, none⟩], rsh := [[.a]], body := (.seq (.reg false [⟨.box 4 (.s 0), none⟩, ⟨.mv (.c (.bool false)), none⟩] [(2, 0), (1, 1)]) (.seq (.seq (.reg false [⟨.fa 3 (.s 2), none⟩, ⟨.ld 1 false (.l 0), none⟩, ⟨.len (.l 1), none⟩, ⟨.mv (.c (.int .i64 0)), none⟩] [(6, 1), (4, 2), (3, 3)]) (.block 0 (.loop (.seq (.reg false [⟨.bin .lss (.s 3) (.s 4), none⟩] [(5, 0)]) (.seq (.cond (.s 5) .skip (.exit 0)) (.seq (.block 1 (.seq (.reg false [⟨.mv (.s 3), none⟩, ⟨.ia 9 (.s 6) (.s 3), none⟩, ⟨.ld 9 true (.l 1), none⟩, ⟨.box 9 (.c (.agg [.str [], .int .i64 0, .int .i64 0, .int .i64 0, .str [], .str [], .str [], .int .u64 0, .nils])), none⟩, ⟨.mv (.l 0), none⟩, ⟨.st 9 (.l 3) (.l 2), none⟩] [(7, 3), (8, 4)]) (.seq (.reg true [⟨.ld 9 true (.s 7), none⟩, ⟨.build [.str [], .int .i64 0, .int .i64 0, .int .i64 0, .str [], .str [], .str [], .int .u64 0, .nils] [(0, 9, (.l 0))], none⟩, ⟨.call 553 [(.l 1)] [[.a, .a, .a, .a, .a, .a, .a, .a, .sl 1 [.a]]], none⟩, ⟨.un .not (.l 2), none⟩, ⟨.mv (.l 3), none⟩, ⟨.mv (.s 8), some (4, false)⟩, ⟨.bin .gtr (.l 5) (.c (.int .i64 0)), some (4, false)⟩, ⟨.mv (.l 6), some (4, false)⟩, ⟨.fa 3 (.s 2), some (7, true)⟩, ⟨.ld 1 false (.l 8), some (7, true)⟩, ⟨.mv (.s 8), some (7, true)⟩, ⟨.bin .sub (.l 10) (.c (.int .i64 1)), some (7, true)⟩, ⟨.ia 9 (.l 9) (.l 11), some (7, true)⟩, ⟨.fa 0 (.l 12), some (7, true)⟩, ⟨.ld 1 false (.l 13), some (7, true)⟩, ⟨.fa 0 (.s 7), some (7, true)⟩, ⟨.ld 1 false (.l 15), some (7, true)⟩, ⟨.bin .geq (.l 14) (.l 16), some (7, true)⟩, ⟨.pick (.l 7) (.l 17) (.c (.bool false)), some (4, false)⟩, ⟨.pick (.l 4) (.c (.bool true)) (.l 18), none⟩] [(9, 19)]) (.cond (.s 9) (.seq (.reg false [⟨.mv (.c (.bool false)), none⟩] [(1, 0)]) .ret) .skip)))) (.reg false [⟨.bin .add (.s 3) (.c (.int .i64 1)), none⟩, ⟨.mv (.l 0), none⟩] [(3, 1)]))))))) (.seq (.reg false [⟨.fa 0 (.s 2), none⟩, ⟨.ld 3 true (.l 0), none⟩, ⟨.call 138 [(.l 1)] [[.a, .a, .a]], none⟩, ⟨.mv (.l 2), none⟩, ⟨.fa 3 (.s 2), some (3, true)⟩, ⟨.ld 1 false (.l 4), some (3, true)⟩, ⟨.len (.l 5), some (3, true)⟩, ⟨.bin .leq (.l 6) (.c (.int .i64 48)), some (3, true)⟩, ⟨.pick (.l 3) (.l 7) (.c (.bool false)), none⟩, ⟨.mv (.l 8), none⟩] [(1, 9)]) .ret))) }
theorem w315 {Γ : Ctx} (hm : (Γ.at 0).Mono) (h138 : C138 (Γ.at 0)) (h553 : C553 (Γ.at 0)) (l : Lck) (hp0 : l.sm) : wpA (Γ.at 0) lock_May.body (Res lock_May (.bool (lckB l)) : Ex → List Ent → St → Prop) (env0 lock_May [Lck.D l]) ⟨0, []⟩ := by
  show wpA _ _ _ [⟨true, Lck.D l⟩, .un, .un, .un, .un, .un, .un, .un, .un, .un] ⟨0, []⟩
  refine wp_regseq ?_; refine r_box ?_; refine r_mv ?_; refine reg_end (env' := [_, ⟨_, (.bool _)⟩, ⟨_, _⟩, _, _, _, _, _, _, _]) ?_; refine wp_assoc ?_; refine wp_regseq ?_; refine r_faP ?_
  first | refine r_ldF (v := .sl _ _) ?_ | refine r_ldF (v := .own _ _ _ _) ?_ | refine r_ldF (v := .nils) ?_
  refine r_lenM fun hlR1_2 => ?_; replace hlR1_2 := hlR1_2 rfl rfl
  refine r_mv ?_; refine reg_end (env' := [_, _, _, ⟨_, (.int _ _)⟩, ⟨_, (.int _ _)⟩, _, ⟨_, (.sl _ _)⟩, _, _, _]) ?_
  refine wp_for hm (ι := Nat) (fun i => [.un, .un, ⟨true, .ptr 0 4 0 0⟩, ⟨true, .int .i64 (i : Nat)⟩, ⟨true, .int .i64 (l.lines.length : Nat)⟩, .un, ⟨true, .sl 9 (l.lines.map Lkd.D)⟩, .un, .un, .un]) (fun i => [(0, .buf 4 [Lck.D l])]) 6 (fun i => i ≤ l.lines.length ∧ allF (lineB l.lines) 0 l.lines.length = allF (lineB l.lines) i l.lines.length) (fun i => l.lines.length - i) 0 ⟨by omega, rfl⟩ (Ghost.to [(0, 0)] q7 q7 q4 q1) ?_
  rintro i ⟨hi, hr⟩
  refine wp_regseq ?_; refine r_lssI ?_; refine reg_end (env' := [_, _, _, _, _, ⟨_, (.bool _)⟩, _, _, _, _]) ?_
  refine wp_condseq (fun hc0 => ?_) (fun hc0 => ?_)
  · try simp only [b0, b1, b2, b3, b4, b5, b6, b7, b8, b9, b10, b11] at hc0
    refine wp_skipseq ?_
    refine wp_blockseq ?_ hm
    refine wp_regseq ?_; refine r_mv ?_
    first | refine r_iaM _ ?_ | refine r_iaMT ?_
    first | refine r_ldR (v := (Lkd.D _)) ?_ | refine r_ldQ (v := (Lkd.D _)) ?_
    refine r_box ?_; refine r_mv ?_; refine r_stF _ ?_; refine reg_end (env' := [_, _, _, _, _, _, _, ⟨_, _⟩, ⟨_, (.int _ _)⟩, _]) ?_; refine wp_regseq ?_; refine r_ldB ?_; refine r_buildD (Lkd.D l.lines[i]!) ?_; refine r_call (hc := h553 l.lines[i]! (hp0.2.1 _ (mem_get (by omega)))) ?_; refine r_not ?_; refine r_mv ?_; refine r_mv ?_; refine r_gtrI ?_; refine r_mv ?_; refine r_faP ?_
    first | refine r_ldF (v := .sl _ _) ?_ | refine r_ldF (v := .own _ _ _ _) ?_ | refine r_ldF (v := .nils) ?_
    refine r_mv ?_; refine r_sub64 ?_; refine r_iaM (i - 1) ?_; refine r_faR ?_
    first | refine r_ldR (v := (.str _)) ?_ | refine r_ldQ (v := (.str _)) ?_
    refine r_faP ?_; refine r_ldF (v := (.str _)) ?_; refine r_geqS ?_; refine r_and ?_; refine r_or ?_; refine reg_end (env' := [_, _, _, _, _, _, _, _, _, ⟨_, (.bool _)⟩]) ?_
    refine wp_cond (fun hc1 => ?_) (fun hc1 => ?_)
    · try simp only [b0, b1, b2, b3, b4, b5, b6, b7, b8, b9, b10, b11] at hc1
      refine wp_regseq ?_; refine r_mv ?_; refine reg_end (env' := [_, ⟨_, (.bool _)⟩, _, _, _, _, _, _, _, _]) ?_; refine wp_ret ?_; refine BQ.ret ?_; refine LQ.ret ?_
      refine res_of trivial q2 q3 (Eq.trans q7 (congrArg D.bool ?_))
      have hz : lineB l.lines i = false := by
        simp only [lineB]
        revert hc1
        generalize lkdB l.lines[i]! = z0
        generalize Op.bytesLess l.lines[i - 1]!.name l.lines[i]!.name = z1
        by_cases e0 : 0 < i <;> cases z0 <;> cases z1 <;> simp_all
      simp only [lckB]; rw [hr, allF_lt (by omega), hz]; simp
    · try simp only [b0, b1, b2, b3, b4, b5, b6, b7, b8, b9, b10, b11] at hc1
      refine wp_skip ?_; refine BQ.normal ?_; refine wp_reg ?_; refine r_add64 ?_; refine r_mv ?_; refine reg_fin (env' := [_, _, _, ⟨_, (.int _ _)⟩, _, _, _, _, _, _]) ?_; refine LQ.normal ?_
      have hz : lineB l.lines i = true := by
        simp only [lineB]
        revert hc1
        generalize lkdB l.lines[i]! = z0
        generalize Op.bytesLess l.lines[i - 1]!.name l.lines[i]!.name = z1
        by_cases e0 : 0 < i <;> cases z0 <;> cases z1 <;> simp_all
      exact ⟨i + 1, ⟨by omega, by rw [hr, allF_lt (by omega), hz]; rfl⟩, by omega, (Ghost.to [(0, 0)] q7 q7 q4 q1)⟩
  · try simp only [b0, b1, b2, b3, b4, b5, b6, b7, b8, b9, b10, b11] at hc0
    refine wp_exitseq ?_; refine LQ.out ?_; refine wp_regseq ?_; refine r_faP ?_; refine r_ldF (v := (Env.D _)) ?_; refine r_call (hc := h138 _) ?_; refine r_mv ?_; refine r_faP ?_
    first | refine r_ldF (v := .sl _ _) ?_ | refine r_ldF (v := .own _ _ _ _) ?_ | refine r_ldF (v := .nils) ?_
    refine r_lenM fun _ => ?_
    refine r_leqI ?_; refine r_and ?_; refine r_mv ?_; refine reg_end (env' := [_, ⟨_, (.bool _)⟩, _, _, _, _, _, _, _, _]) ?_; refine wp_ret ?_
    refine res_of trivial q2 q3 (Eq.trans q7 (congrArg D.bool ?_))
    simp only [lckB]; rw [hr, allF_ge (by omega), Bool.and_true]
    have h9 : decide ((l.lines.length : Int) ≤ 48) = decide (l.lines.length ≤ 48) := decide_eq_decide.2 (by omega)
    rw [h9]
def C315 (Γ : Ctx) : Prop := ∀ (l : Lck), (l.sm) → Γ.pre 315 [Lck.D l] ∧ Γ.val 315 [Lck.D l] = .bool (lckB l)
/-- slices.Equal[[]string,string] -/
def slices_Equal : AFunc := { np := 2, ns := 9, res := [⟨2, none⟩], rsh := [[.a]], body := (.seq (.reg false [⟨.mv (.c (.bool false)), none⟩] [(2, 0)]) (.seq (.seq (.reg false [⟨.mv (.s 0), none⟩, ⟨.len (.l 0), none⟩, ⟨.mv (.s 1), none⟩, ⟨.len (.l 2), none⟩, ⟨.bin .neq (.l 1) (.l 3), none⟩] [(3, 4)]) (.cond (.s 3) (.seq (.reg false [⟨.mv (.c (.bool false)), none⟩] [(2, 0)]) .ret) .skip)) (.seq (.seq (.reg false [⟨.mv (.s 0), none⟩, ⟨.len (.l 0), none⟩, ⟨.mv (.c (.int .i64 0)), none⟩] [(5, 1), (4, 2)]) (.block 0 (.loop (.seq (.reg false [⟨.bin .lss (.s 4) (.s 5), none⟩] [(6, 0)]) (.seq (.cond (.s 6) .skip (.exit 0)) (.seq (.block 1 (.seq (.reg false [⟨.mv (.s 4), none⟩, ⟨.mv (.l 0), none⟩] [(7, 1)]) (.seq (.reg true [⟨.mv (.s 0), none⟩, ⟨.mv (.s 7), none⟩, ⟨.ia 1 (.l 0) (.l 1), none⟩, ⟨.ld 1 false (.l 2), none⟩, ⟨.mv (.s 1), none⟩, ⟨.mv (.s 7), none⟩, ⟨.ia 1 (.l 4) (.l 5), none⟩, ⟨.ld 1 false (.l 6), none⟩, ⟨.bin .neq (.l 3) (.l 7), none⟩] [(8, 8)]) (.cond (.s 8) (.seq (.reg false [⟨.mv (.c (.bool false)), none⟩] [(2, 0)]) .ret) .skip)))) (.reg false [⟨.bin .add (.s 4) (.c (.int .i64 1)), none⟩, ⟨.mv (.l 0), none⟩] [(4, 1)]))))))) (.seq (.reg false [⟨.mv (.c (.bool true)), none⟩] [(2, 0)]) .ret)))) }
theorem w486 {Γ : Ctx} (hm : (Γ.at 0).Mono)  (a : List Str) (b : List Str)  : wpA (Γ.at 0) slices_Equal.body (Res slices_Equal (.bool (decide (a = b))) : Ex → List Ent → St → Prop) (env0 slices_Equal [.sl 1 (a.map D.str), .sl 1 (b.map D.str)]) ⟨0, []⟩ := by
  show wpA _ _ _ [⟨true, .sl 1 (a.map D.str)⟩, ⟨true, .sl 1 (b.map D.str)⟩, .un, .un, .un, .un, .un, .un, .un] ⟨0, []⟩
  refine wp_regseq ?_; refine r_mv ?_; refine reg_end (env' := [_, _, ⟨_, (.bool _)⟩, _, _, _, _, _, _]) ?_; refine wp_assoc ?_; refine wp_regseq ?_; refine r_mv ?_
  refine r_lenM fun hlR1_1 => ?_; replace hlR1_1 := hlR1_1 rfl rfl
  refine r_mv ?_
  refine r_lenM fun hlR1_3 => ?_; replace hlR1_3 := hlR1_3 rfl rfl
  refine r_neqI ?_; refine reg_end (env' := [_, _, _, ⟨_, (.bool _)⟩, _, _, _, _, _]) ?_
  refine wp_condseq (fun hc0 => ?_) (fun hc0 => ?_)
  · try simp only [b0, b1, b2, b3, b4, b5, b6, b7, b8, b9, b10, b11] at hc0
    refine wp_assoc ?_; refine wp_regseq ?_; refine r_mv ?_; refine reg_end (env' := [_, _, ⟨_, (.bool _)⟩, _, _, _, _, _, _]) ?_; refine wp_retseq ?_
    refine res_of trivial q2 q3 (Eq.trans q7 (congrArg D.bool ?_))
    symm; rw [decide_eq_false_iff_not]; rintro rfl; simp at hc0
  · try simp only [b0, b1, b2, b3, b4, b5, b6, b7, b8, b9, b10, b11] at hc0
    refine wp_skipseq ?_; refine wp_assoc ?_; refine wp_regseq ?_; refine r_mv ?_
    refine r_lenM fun hlR3_1 => ?_; replace hlR3_1 := hlR3_1 rfl rfl
    refine r_mv ?_; refine reg_end (env' := [_, _, _, _, ⟨_, (.int _ _)⟩, ⟨_, (.int _ _)⟩, _, _, _]) ?_
    have hb := same_idx (show a.length = b.length by omega)
    refine wp_for hm (ι := Nat) (fun i => [⟨true, .sl 1 (a.map D.str)⟩, ⟨true, .sl 1 (b.map D.str)⟩, .un, .un, ⟨true, .int .i64 (i : Nat)⟩, ⟨true, .int .i64 (a.length : Nat)⟩, .un, .un, .un]) (fun i => []) 9 (fun i => i ≤ a.length ∧ decide (a = b) = allF (fun i => decide (a[i]! = b[i]!)) i a.length) (fun i => a.length - i) 0 ⟨by omega, hb⟩ (Ghost.to [] q7 q7 q4 q1) ?_
    rintro i ⟨hi, hr⟩
    refine wp_regseq ?_; refine r_lssI ?_; refine reg_end (env' := [_, _, _, _, _, _, ⟨_, (.bool _)⟩, _, _]) ?_
    refine wp_condseq (fun hc1 => ?_) (fun hc1 => ?_)
    · try simp only [b0, b1, b2, b3, b4, b5, b6, b7, b8, b9, b10, b11] at hc1
      refine wp_skipseq ?_
      refine wp_blockseq ?_ hm
      refine wp_regseq ?_; refine r_mv ?_; refine r_mv ?_; refine reg_end (env' := [_, _, _, _, _, _, _, ⟨_, (.int _ _)⟩, _]) ?_; refine wp_regseq ?_; refine r_mv ?_; refine r_mv ?_
      first | refine r_iaM _ ?_ | refine r_iaMT ?_
      first | refine r_ldR (v := (.str _)) ?_ | refine r_ldQ (v := (.str _)) ?_
      refine r_mv ?_; refine r_mv ?_
      first | refine r_iaM _ ?_ | refine r_iaMT ?_
      first | refine r_ldR (v := (.str _)) ?_ | refine r_ldQ (v := (.str _)) ?_
      refine r_neqS ?_; refine reg_end (env' := [_, _, _, _, _, _, _, _, ⟨_, (.bool _)⟩]) ?_
      refine wp_cond (fun hc2 => ?_) (fun hc2 => ?_)
      · simp only [Bool.not_eq_true', decide_eq_false_iff_not] at hc2
        refine wp_regseq ?_; refine r_mv ?_; refine reg_end (env' := [_, _, ⟨_, (.bool _)⟩, _, _, _, _, _, _]) ?_; refine wp_ret ?_; refine BQ.ret ?_; refine LQ.ret ?_
        refine res_of trivial q2 q3 (Eq.trans q7 (congrArg D.bool ?_))
        rw [hr, allF_lt (by omega), decide_eq_false hc2]; rfl
      · simp only [Bool.not_eq_false', decide_eq_true_eq] at hc2
        refine wp_skip ?_; refine BQ.normal ?_; refine wp_reg ?_; refine r_add64 ?_; refine r_mv ?_; refine reg_fin (env' := [_, _, _, _, ⟨_, (.int _ _)⟩, _, _, _, _]) ?_; refine LQ.normal ?_
        exact ⟨i + 1, ⟨by omega, by rw [hr, allF_lt (by omega), decide_eq_true hc2]; rfl⟩, by omega, (Ghost.to [] q7 q7 q4 q1)⟩
    · try simp only [b0, b1, b2, b3, b4, b5, b6, b7, b8, b9, b10, b11] at hc1
      refine wp_exitseq ?_; refine LQ.out ?_; refine wp_regseq ?_; refine r_mv ?_; refine reg_end (env' := [_, _, ⟨_, (.bool _)⟩, _, _, _, _, _, _]) ?_; refine wp_ret ?_
      refine res_of trivial q2 q3 (Eq.trans q7 (congrArg D.bool ?_))
      rw [hr, allF_ge (by omega)]
def C486 (Γ : Ctx) : Prop := ∀ (a : List Str) (b : List Str), Γ.pre 486 [.sl 1 (a.map D.str), .sl 1 (b.map D.str)] ∧ Γ.val 486 [.sl 1 (a.map D.str), .sl 1 (b.map D.str)] = .bool (decide (a = b))
/-- (linchpin/lock.line).same -/
def lock_line_same : AFunc := { np := 2, ns := 5, res := [⟨2, none⟩], rsh := [[.a]], body := (.seq (.reg false [⟨.box 9 (.s 0), none⟩, ⟨.box 9 (.s 1), none⟩, ⟨.mv (.c (.bool false)), none⟩] [(3, 0), (4, 1), (2, 2)]) (.seq (.reg false [⟨.fa 0 (.s 3), none⟩, ⟨.fa 0 (.l 0), none⟩, ⟨.ld 1 false (.l 1), none⟩, ⟨.fa 0 (.s 4), none⟩, ⟨.fa 0 (.l 3), none⟩, ⟨.ld 1 false (.l 4), none⟩, ⟨.bin .eql (.l 2) (.l 5), none⟩, ⟨.mv (.l 6), none⟩, ⟨.fa 0 (.s 3), some (7, true)⟩, ⟨.fa 1 (.l 8), some (7, true)⟩, ⟨.ld 5 true (.l 9), some (7, true)⟩, ⟨.fa 0 (.s 4), some (7, true)⟩, ⟨.fa 1 (.l 11), some (7, true)⟩, ⟨.ld 5 true (.l 12), some (7, true)⟩, ⟨.eqA false true [.i .i64, .i .i64, .i .i64, .s, .s] (.l 10) (.l 13), some (7, true)⟩, ⟨.pick (.l 7) (.l 14) (.c (.bool false)), none⟩, ⟨.mv (.l 15), none⟩, ⟨.fa 0 (.s 3), some (16, true)⟩, ⟨.fa 6 (.l 17), some (16, true)⟩, ⟨.ld 1 false (.l 18), some (16, true)⟩, ⟨.fa 0 (.s 4), some (16, true)⟩, ⟨.fa 6 (.l 20), some (16, true)⟩, ⟨.ld 1 false (.l 21), some (16, true)⟩, ⟨.bin .eql (.l 19) (.l 22), some (16, true)⟩, ⟨.pick (.l 16) (.l 23) (.c (.bool false)), none⟩, ⟨.mv (.l 24), none⟩, ⟨.fa 0 (.s 3), some (25, true)⟩, ⟨.fa 7 (.l 26), some (25, true)⟩, ⟨.ld 1 false (.l 27), some (25, true)⟩, ⟨.fa 0 (.s 4), some (25, true)⟩, ⟨.fa 7 (.l 29), some (25, true)⟩, ⟨.ld 1 false (.l 30), some (25, true)⟩, ⟨.bin .eql (.l 28) (.l 31), some (25, true)⟩, ⟨.pick (.l 25) (.l 32) (.c (.bool false)), none⟩, ⟨.mv (.l 33), none⟩, ⟨.fa 0 (.s 3), some (34, true)⟩, ⟨.fa 8 (.l 35), some (34, true)⟩, ⟨.ld 1 false (.l 36), some (34, true)⟩, ⟨.fa 0 (.s 4), some (34, true)⟩, ⟨.fa 8 (.l 38), some (34, true)⟩, ⟨.ld 1 false (.l 39), some (34, true)⟩, ⟨.call 486 [(.l 37), (.l 40)] [[.sl 1 [.a]], [.sl 1 [.a]]], some (34, true)⟩, ⟨.pick (.l 34) (.l 41) (.c (.bool false)), none⟩, ⟨.mv (.l 42), none⟩] [(2, 43)]) .ret)) }
theorem w552 {Γ : Ctx} (hm : (Γ.at 0).Mono) (h486 : C486 (Γ.at 0)) (a : Lkd) (b : Lkd)  : wpA (Γ.at 0) lock_line_same.body (Res lock_line_same (.bool (decide (a = b))) : Ex → List Ent → St → Prop) (env0 lock_line_same [Lkd.D a, Lkd.D b]) ⟨0, []⟩ := by
  show wpA _ _ _ [⟨true, Lkd.D a⟩, ⟨true, Lkd.D b⟩, .un, .un, .un] ⟨0, []⟩
  refine wp_regseq ?_; refine r_box ?_; refine r_box ?_; refine r_mv ?_; refine reg_end (env' := [_, _, ⟨_, (.bool _)⟩, ⟨_, _⟩, ⟨_, _⟩]) ?_; refine wp_regseq ?_; refine r_faP ?_; refine r_faP ?_; refine r_ldF (v := (.str _)) ?_; refine r_faP ?_; refine r_faP ?_; refine r_ldF (v := (.str _)) ?_; refine r_eqlS ?_; refine r_mv ?_; refine r_faP ?_; refine r_faP ?_; refine r_ldF (v := (Ver.D _)) ?_; refine r_faP ?_; refine r_faP ?_; refine r_ldF (v := (Ver.D _)) ?_; refine r_eqP (hb := Ver.eq _ _) ?_; refine r_and ?_; refine r_mv ?_; refine r_faP ?_; refine r_faP ?_; refine r_ldF (v := (.str _)) ?_; refine r_faP ?_
  refine r_faP ?_; refine r_ldF (v := (.str _)) ?_; refine r_eqlS ?_; refine r_and ?_; refine r_mv ?_; refine r_faP ?_; refine r_faP ?_; refine r_ldF (v := (.int _ _)) ?_; refine r_faP ?_; refine r_faP ?_; refine r_ldF (v := (.int _ _)) ?_; refine r_eqlI ?_; refine r_and ?_; refine r_mv ?_; refine r_faP ?_; refine r_faP ?_
  first | refine r_ldF (v := .sl _ _) ?_ | refine r_ldF (v := .own _ _ _ _) ?_ | refine r_ldF (v := .nils) ?_
  refine r_faP ?_; refine r_faP ?_
  first | refine r_ldF (v := .sl _ _) ?_ | refine r_ldF (v := .own _ _ _ _) ?_ | refine r_ldF (v := .nils) ?_
  refine r_call (hc := h486 _ _) ?_; refine r_and ?_; refine r_mv ?_; refine reg_end (env' := [_, _, ⟨_, (.bool _)⟩, _, _]) ?_; refine wp_ret ?_
  refine res_of trivial q2 q3 (Eq.trans q7 (congrArg D.bool ?_))
  obtain ⟨a1, a2, a3, a4, a5⟩ := a
  obtain ⟨b1, b2, b3, b4, b5⟩ := b
  simp only [Lkd.mk.injEq, Bool.decide_and, Bool.and_assoc]
def C552 (Γ : Ctx) : Prop := ∀ (a : Lkd) (b : Lkd), Γ.pre 552 [Lkd.D a, Lkd.D b] ∧ Γ.val 552 [Lkd.D a, Lkd.D b] = .bool (decide (a = b))
/-- linchpin/lock.Same$1 -/
def lock_Same_1 : AFunc := { np := 2, ns := 5, res := [⟨2, none⟩], rsh := [[.a]], body := (.seq (.reg false [⟨.box 9 (.s 0), none⟩, ⟨.box 9 (.s 1), none⟩, ⟨.mv (.c (.bool false)), none⟩] [(3, 0), (4, 1), (2, 2)]) (.seq (.reg false [⟨.ld 9 true (.s 3), none⟩, ⟨.build [.str [], .int .i64 0, .int .i64 0, .int .i64 0, .str [], .str [], .str [], .int .u64 0, .nils] [(0, 9, (.l 0))], none⟩, ⟨.ld 9 true (.s 4), none⟩, ⟨.build [.str [], .int .i64 0, .int .i64 0, .int .i64 0, .str [], .str [], .str [], .int .u64 0, .nils] [(0, 9, (.l 2))], none⟩, ⟨.call 552 [(.l 1), (.l 3)] [[.a, .a, .a, .a, .a, .a, .a, .a, .sl 1 [.a]], [.a, .a, .a, .a, .a, .a, .a, .a, .sl 1 [.a]]], none⟩, ⟨.mv (.l 4), none⟩] [(2, 5)]) .ret)) }
theorem w551 {Γ : Ctx} (hm : (Γ.at 0).Mono) (h552 : C552 (Γ.at 0)) (a : Lkd) (b : Lkd)  : wpA (Γ.at 0) lock_Same_1.body (Res lock_Same_1 (.bool (decide (a = b))) : Ex → List Ent → St → Prop) (env0 lock_Same_1 [Lkd.D a, Lkd.D b]) ⟨0, []⟩ := by
  show wpA _ _ _ [⟨true, Lkd.D a⟩, ⟨true, Lkd.D b⟩, .un, .un, .un] ⟨0, []⟩
  refine wp_regseq ?_; refine r_box ?_; refine r_box ?_; refine r_mv ?_; refine reg_end (env' := [_, _, ⟨_, (.bool _)⟩, ⟨_, _⟩, ⟨_, _⟩]) ?_; refine wp_regseq ?_; refine r_ldB ?_; refine r_buildD (Lkd.D a) ?_; refine r_ldB ?_; refine r_buildD (Lkd.D b) ?_; refine r_call (hc := h552 _ _) ?_; refine r_mv ?_; refine reg_end (env' := [_, _, ⟨_, (.bool _)⟩, _, _]) ?_; refine wp_ret ?_
  refine res_of trivial q2 q3 (Eq.trans q7 (congrArg D.bool ?_))
  rfl
def C551 (Γ : Ctx) : Prop := ∀ (a : Lkd) (b : Lkd), Γ.pre 551 [Lkd.D a, Lkd.D b] ∧ Γ.val 551 [Lkd.D a, Lkd.D b] = .bool (decide (a = b))
/-- slices.EqualFunc[[]linchpin/api.Locked,[]linchpin/api.Locked,linchpin/api.Locked,linchpin/api.Locked] -/
def slices_EqualFunc : AFunc := { np := 3, ns := 13, res := [⟨3, none⟩], rsh := [[.a]], body := (.seq (.reg false [⟨.mv (.c (.bool false)), none⟩] [(3, 0)]) (.seq (.seq (.reg false [⟨.mv (.s 0), none⟩, ⟨.len (.l 0), none⟩, ⟨.mv (.s 1), none⟩, ⟨.len (.l 2), none⟩, ⟨.bin .neq (.l 1) (.l 3), none⟩] [(4, 4)]) (.cond (.s 4) (.seq (.reg false [⟨.mv (.c (.bool false)), none⟩] [(3, 0)]) .ret) .skip)) (.seq (.seq (.reg false [⟨.mv (.s 0), none⟩, ⟨.len (.l 0), none⟩, ⟨.mv (.c (.int .i64 0)), none⟩] [(8, 0), (6, 1), (5, 2)]) (.block 0 (.loop (.seq (.reg false [⟨.bin .lss (.s 5) (.s 6), none⟩] [(7, 0)]) (.seq (.cond (.s 7) .skip (.exit 0)) (.seq (.block 1 (.seq (.reg false [⟨.mv (.s 5), none⟩, ⟨.ia 9 (.s 8) (.s 5), none⟩, ⟨.ld 9 true (.l 1), none⟩, ⟨.box 9 (.c (.agg [.str [], .int .i64 0, .int .i64 0, .int .i64 0, .str [], .str [], .str [], .int .u64 0, .nils])), none⟩, ⟨.mv (.l 0), none⟩, ⟨.st 9 (.l 3) (.l 2), none⟩] [(10, 3), (9, 4)]) (.seq (.reg false [⟨.mv (.s 1), none⟩, ⟨.mv (.s 9), none⟩, ⟨.ia 9 (.l 0) (.l 1), none⟩, ⟨.ld 9 true (.l 2), none⟩, ⟨.box 9 (.c (.agg [.str [], .int .i64 0, .int .i64 0, .int .i64 0, .str [], .str [], .str [], .int .u64 0, .nils])), none⟩, ⟨.st 9 (.l 4) (.l 3), none⟩] [(11, 4)]) (.seq (.reg false [⟨.mv (.s 2), none⟩, ⟨.ld 9 true (.s 10), none⟩, ⟨.ld 9 true (.s 11), none⟩, ⟨.callv (.l 0) [(.l 1), (.l 2)] [[.a, .a, .a, .a, .a, .a, .a, .a, .sl 1 [.a]], [.a, .a, .a, .a, .a, .a, .a, .a, .sl 1 [.a]]], none⟩, ⟨.un .not (.l 3), none⟩] [(12, 4)]) (.cond (.s 12) (.seq (.reg false [⟨.mv (.c (.bool false)), none⟩] [(3, 0)]) .ret) .skip))))) (.reg false [⟨.bin .add (.s 5) (.c (.int .i64 1)), none⟩, ⟨.mv (.l 0), none⟩] [(5, 1)]))))))) (.seq (.reg false [⟨.mv (.c (.bool true)), none⟩] [(3, 0)]) .ret)))) }
theorem w550 {Γ : Ctx} (hm : (Γ.at 0).Mono) (h551 : C551 (Γ.at 0)) (a : List Lkd) (b : List Lkd)  : wpA (Γ.at 0) slices_EqualFunc.body (Res slices_EqualFunc (.bool (decide (a = b))) : Ex → List Ent → St → Prop) (env0 slices_EqualFunc [.sl 9 (a.map Lkd.D), .sl 9 (b.map Lkd.D), .fn 551 []]) ⟨0, []⟩ := by
  show wpA _ _ _ [⟨true, .sl 9 (a.map Lkd.D)⟩, ⟨true, .sl 9 (b.map Lkd.D)⟩, ⟨true, .fn 551 []⟩, .un, .un, .un, .un, .un, .un, .un, .un, .un, .un] ⟨0, []⟩
  refine wp_regseq ?_; refine r_mv ?_; refine reg_end (env' := [_, _, _, ⟨_, (.bool _)⟩, _, _, _, _, _, _, _, _, _]) ?_; refine wp_assoc ?_; refine wp_regseq ?_; refine r_mv ?_
  refine r_lenM fun hlR1_1 => ?_; replace hlR1_1 := hlR1_1 rfl rfl
  refine r_mv ?_
  refine r_lenM fun hlR1_3 => ?_; replace hlR1_3 := hlR1_3 rfl rfl
  refine r_neqI ?_; refine reg_end (env' := [_, _, _, _, ⟨_, (.bool _)⟩, _, _, _, _, _, _, _, _]) ?_
  refine wp_condseq (fun hc0 => ?_) (fun hc0 => ?_)
  · try simp only [b0, b1, b2, b3, b4, b5, b6, b7, b8, b9, b10, b11] at hc0
    refine wp_assoc ?_; refine wp_regseq ?_; refine r_mv ?_; refine reg_end (env' := [_, _, _, ⟨_, (.bool _)⟩, _, _, _, _, _, _, _, _, _]) ?_; refine wp_retseq ?_
    refine res_of trivial q2 q3 (Eq.trans q7 (congrArg D.bool ?_))
    symm; rw [decide_eq_false_iff_not]; rintro rfl; simp at hc0
  · try simp only [b0, b1, b2, b3, b4, b5, b6, b7, b8, b9, b10, b11] at hc0
    refine wp_skipseq ?_; refine wp_assoc ?_; refine wp_regseq ?_; refine r_mv ?_
    refine r_lenM fun hlR3_1 => ?_; replace hlR3_1 := hlR3_1 rfl rfl
    refine r_mv ?_; refine reg_end (env' := [_, _, _, _, _, ⟨_, (.int _ _)⟩, ⟨_, (.int _ _)⟩, _, ⟨_, (.sl _ _)⟩, _, _, _, _]) ?_
    have hb := same_idx (show a.length = b.length by omega)
    refine wp_for hm (ι := Nat) (fun i => [.un, ⟨true, .sl 9 (b.map Lkd.D)⟩, ⟨true, .fn 551 []⟩, .un, .un, ⟨true, .int .i64 (i : Nat)⟩, ⟨true, .int .i64 (a.length : Nat)⟩, .un, ⟨true, .sl 9 (a.map Lkd.D)⟩, .un, .un, .un, .un]) (fun i => []) 9 (fun i => i ≤ a.length ∧ decide (a = b) = allF (fun i => decide (a[i]! = b[i]!)) i a.length) (fun i => a.length - i) 0 ⟨by omega, hb⟩ (Ghost.to [] q7 q7 q4 q1) ?_
    rintro i ⟨hi, hr⟩
    refine wp_regseq ?_; refine r_lssI ?_; refine reg_end (env' := [_, _, _, _, _, _, _, ⟨_, (.bool _)⟩, _, _, _, _, _]) ?_
    refine wp_condseq (fun hc1 => ?_) (fun hc1 => ?_)
    · try simp only [b0, b1, b2, b3, b4, b5, b6, b7, b8, b9, b10, b11] at hc1
      refine wp_skipseq ?_
      refine wp_blockseq ?_ hm
      refine wp_regseq ?_; refine r_mv ?_
      first | refine r_iaM _ ?_ | refine r_iaMT ?_
      first | refine r_ldR (v := (Lkd.D _)) ?_ | refine r_ldQ (v := (Lkd.D _)) ?_
      refine r_box ?_; refine r_mv ?_; refine r_stF _ ?_; refine reg_end (env' := [_, _, _, _, _, _, _, _, _, ⟨_, (.int _ _)⟩, ⟨_, _⟩, _, _]) ?_; refine wp_regseq ?_; refine r_mv ?_; refine r_mv ?_
      first | refine r_iaM _ ?_ | refine r_iaMT ?_
      first | refine r_ldR (v := (Lkd.D _)) ?_ | refine r_ldQ (v := (Lkd.D _)) ?_
      refine r_box ?_; refine r_stF _ ?_; refine reg_end (env' := [_, _, _, _, _, _, _, _, _, _, _, ⟨_, _⟩, _]) ?_; refine wp_regseq ?_; refine r_mv ?_; refine r_ldB ?_; refine r_ldB ?_
      refine r_callv (hc := fun _ => h551 a[i]! b[i]!) ?_
      refine r_not ?_; refine reg_end (env' := [_, _, _, _, _, _, _, _, _, _, _, _, ⟨_, (.bool _)⟩]) ?_
      refine wp_cond (fun hc2 => ?_) (fun hc2 => ?_)
      · simp only [Bool.not_eq_true', decide_eq_false_iff_not] at hc2
        refine wp_regseq ?_; refine r_mv ?_; refine reg_end (env' := [_, _, _, ⟨_, (.bool _)⟩, _, _, _, _, _, _, _, _, _]) ?_; refine wp_ret ?_; refine BQ.ret ?_; refine LQ.ret ?_
        refine res_of trivial q2 q3 (Eq.trans q7 (congrArg D.bool ?_))
        rw [hr, allF_lt (by omega), decide_eq_false hc2]; rfl
      · simp only [Bool.not_eq_false', decide_eq_true_eq] at hc2
        refine wp_skip ?_; refine BQ.normal ?_; refine wp_reg ?_; refine r_add64 ?_; refine r_mv ?_; refine reg_fin (env' := [_, _, _, _, _, ⟨_, (.int _ _)⟩, _, _, _, _, _, _, _]) ?_; refine LQ.normal ?_
        exact ⟨i + 1, ⟨by omega, by rw [hr, allF_lt (by omega), decide_eq_true hc2]; rfl⟩, by omega, (Ghost.to [] q7 q7 q4 q1)⟩
    · try simp only [b0, b1, b2, b3, b4, b5, b6, b7, b8, b9, b10, b11] at hc1
      refine wp_exitseq ?_; refine LQ.out ?_; refine wp_regseq ?_; refine r_mv ?_; refine reg_end (env' := [_, _, _, ⟨_, (.bool _)⟩, _, _, _, _, _, _, _, _, _]) ?_; refine wp_ret ?_
      refine res_of trivial q2 q3 (Eq.trans q7 (congrArg D.bool ?_))
      rw [hr, allF_ge (by omega)]
def C550 (Γ : Ctx) : Prop := ∀ (a : List Lkd) (b : List Lkd), Γ.pre 550 [.sl 9 (a.map Lkd.D), .sl 9 (b.map Lkd.D), .fn 551 []] ∧ Γ.val 550 [.sl 9 (a.map Lkd.D), .sl 9 (b.map Lkd.D), .fn 551 []] = .bool (decide (a = b))
/-- linchpin/lock.Same -/
def lock_Same : AFunc := { np := 2, ns := 5, res := [⟨2, none⟩], rsh := [[.a]], body := (.seq (.reg false [⟨.box 4 (.s 0), none⟩, ⟨.box 4 (.s 1), none⟩, ⟨.mv (.c (.bool false)), none⟩] [(3, 0), (4, 1), (2, 2)]) (.seq (.reg false [⟨.fa 0 (.s 3), none⟩, ⟨.ld 3 true (.l 0), none⟩, ⟨.fa 0 (.s 4), none⟩, ⟨.ld 3 true (.l 2), none⟩, ⟨.eqA false true [.s, .s, .s] (.l 1) (.l 3), none⟩, ⟨.mv (.l 4), none⟩, ⟨.fa 3 (.s 3), some (5, true)⟩, ⟨.ld 1 false (.l 6), some (5, true)⟩, ⟨.fa 3 (.s 4), some (5, true)⟩, ⟨.ld 1 false (.l 8), some (5, true)⟩, ⟨.call 550 [(.l 7), (.l 9), (.c (.fn 551 []))] [[.sl 9 [.a, .a, .a, .a, .a, .a, .a, .a, .sl 1 [.a]]], [.sl 9 [.a, .a, .a, .a, .a, .a, .a, .a, .sl 1 [.a]]], [.a]], some (5, true)⟩, ⟨.pick (.l 5) (.l 10) (.c (.bool false)), none⟩, ⟨.mv (.l 11), none⟩] [(2, 12)]) .ret)) }
theorem w314 {Γ : Ctx} (hm : (Γ.at 0).Mono) (h550 : C550 (Γ.at 0)) (a : Lck) (b : Lck)  : wpA (Γ.at 0) lock_Same.body (Res lock_Same (.bool (decide (a = b))) : Ex → List Ent → St → Prop) (env0 lock_Same [Lck.D a, Lck.D b]) ⟨0, []⟩ := by
  show wpA _ _ _ [⟨true, Lck.D a⟩, ⟨true, Lck.D b⟩, .un, .un, .un] ⟨0, []⟩
  refine wp_regseq ?_; refine r_box ?_; refine r_box ?_; refine r_mv ?_; refine reg_end (env' := [_, _, ⟨_, (.bool _)⟩, ⟨_, _⟩, ⟨_, _⟩]) ?_; refine wp_regseq ?_; refine r_faP ?_; refine r_ldF (v := (Env.D _)) ?_; refine r_faP ?_; refine r_ldF (v := (Env.D _)) ?_; refine r_eqP (hb := Env.eq _ _) ?_; refine r_mv ?_; refine r_faP ?_
  first | refine r_ldF (v := .sl _ _) ?_ | refine r_ldF (v := .own _ _ _ _) ?_ | refine r_ldF (v := .nils) ?_
  refine r_faP ?_
  first | refine r_ldF (v := .sl _ _) ?_ | refine r_ldF (v := .own _ _ _ _) ?_ | refine r_ldF (v := .nils) ?_
  refine r_call (hc := h550 a.lines b.lines) ?_; refine r_and ?_; refine r_mv ?_; refine reg_end (env' := [_, _, ⟨_, (.bool _)⟩, _, _]) ?_; refine wp_ret ?_
  refine res_of trivial q2 q3 (Eq.trans q7 (congrArg D.bool ?_))
  obtain ⟨a1, a2⟩ := a
  obtain ⟨b1, b2⟩ := b
  simp only [Lck.mk.injEq, Bool.decide_and]
def C314 (Γ : Ctx) : Prop := ∀ (a : Lck) (b : Lck), Γ.pre 314 [Lck.D a, Lck.D b] ∧ Γ.val 314 [Lck.D a, Lck.D b] = .bool (decide (a = b))
end Go.Abs
end
section
namespace Go.Abs
open Go
/-- linchpin/linchpinref33.dash -/
def ref33_dash : AFunc := { np := 1, ns := 3, res := [⟨1, none⟩], rsh := [[.a]], body := (.seq (.reg false [⟨.mv (.c (.str [])), none⟩] [(1, 0)]) (.seq (.seq (.reg false [⟨.mv (.s 0), none⟩, ⟨.bin .eql (.l 0) (.c (.str [])), none⟩] [(2, 1)]) (.cond (.s 2) (.seq (.reg false [⟨.mv (.c (.str [45])), none⟩] [(1, 0)]) .ret) .skip)) (.seq (.reg false [⟨.mv (.s 0), none⟩, ⟨.mv (.l 0), none⟩] [(1, 1)]) .ret))) }
theorem w894 {Γ : Ctx} (hm : (Γ.at 0).Mono)  (s : Str)  : wpA (Γ.at 0) ref33_dash.body (Res ref33_dash (.str (dashS s)) : Ex → List Ent → St → Prop) (env0 ref33_dash [.str s]) ⟨0, []⟩ := by
  show wpA _ _ _ [⟨true, .str s⟩, .un, .un] ⟨0, []⟩
  refine wp_regseq ?_; refine r_mv ?_; refine reg_end (env' := [_, ⟨_, (.str _)⟩, _]) ?_; refine wp_assoc ?_; refine wp_regseq ?_; refine r_mv ?_; refine r_eqlS ?_; refine reg_end (env' := [_, _, ⟨_, (.bool _)⟩]) ?_
  refine wp_condseq (fun hc0 => ?_) (fun hc0 => ?_)
  · try simp only [b0, b1, b2, b3, b4, b5, b6, b7, b8, b9, b10, b11] at hc0
    refine wp_assoc ?_; refine wp_regseq ?_; refine r_mv ?_; refine reg_end (env' := [_, ⟨_, (.str _)⟩, _]) ?_; refine wp_retseq ?_
    refine res_of trivial q2 q3 (Eq.trans q7 (congrArg D.str ?_))
    simp [dashS, hc0]
  · try simp only [b0, b1, b2, b3, b4, b5, b6, b7, b8, b9, b10, b11] at hc0
    refine wp_skipseq ?_; refine wp_regseq ?_; refine r_mv ?_; refine r_mv ?_; refine reg_end (env' := [_, ⟨_, (.str _)⟩, _]) ?_; refine wp_ret ?_
    refine res_of trivial q2 q3 (Eq.trans q7 (congrArg D.str ?_))
    simp [dashS, hc0]
def C894 (Γ : Ctx) : Prop := ∀ (s : Str), Γ.pre 894 [.str s] ∧ Γ.val 894 [.str s] = .str (dashS s)
/-- linchpin/lock.dash -/
def lock_dash : AFunc := { np := 1, ns := 3, res := [⟨1, none⟩], rsh := [[.a]], body := (.seq (.reg false [⟨.mv (.c (.str [])), none⟩] [(1, 0)]) (.seq (.seq (.reg false [⟨.mv (.s 0), none⟩, ⟨.bin .eql (.l 0) (.c (.str [])), none⟩] [(2, 1)]) (.cond (.s 2) (.seq (.reg false [⟨.mv (.c (.str [45])), none⟩] [(1, 0)]) .ret) .skip)) (.seq (.reg false [⟨.mv (.s 0), none⟩, ⟨.mv (.l 0), none⟩] [(1, 1)]) .ret))) }
theorem w548 {Γ : Ctx} (hm : (Γ.at 0).Mono)  (s : Str)  : wpA (Γ.at 0) lock_dash.body (Res lock_dash (.str (dashS s)) : Ex → List Ent → St → Prop) (env0 lock_dash [.str s]) ⟨0, []⟩ := by
  show wpA _ _ _ [⟨true, .str s⟩, .un, .un] ⟨0, []⟩
  refine wp_regseq ?_; refine r_mv ?_; refine reg_end (env' := [_, ⟨_, (.str _)⟩, _]) ?_; refine wp_assoc ?_; refine wp_regseq ?_; refine r_mv ?_; refine r_eqlS ?_; refine reg_end (env' := [_, _, ⟨_, (.bool _)⟩]) ?_
  refine wp_condseq (fun hc0 => ?_) (fun hc0 => ?_)
  · try simp only [b0, b1, b2, b3, b4, b5, b6, b7, b8, b9, b10, b11] at hc0
    refine wp_assoc ?_; refine wp_regseq ?_; refine r_mv ?_; refine reg_end (env' := [_, ⟨_, (.str _)⟩, _]) ?_; refine wp_retseq ?_
    refine res_of trivial q2 q3 (Eq.trans q7 (congrArg D.str ?_))
    simp [dashS, hc0]
  · try simp only [b0, b1, b2, b3, b4, b5, b6, b7, b8, b9, b10, b11] at hc0
    refine wp_skipseq ?_; refine wp_regseq ?_; refine r_mv ?_; refine r_mv ?_; refine reg_end (env' := [_, ⟨_, (.str _)⟩, _]) ?_; refine wp_ret ?_
    refine res_of trivial q2 q3 (Eq.trans q7 (congrArg D.str ?_))
    simp [dashS, hc0]
def C548 (Γ : Ctx) : Prop := ∀ (s : Str), Γ.pre 548 [.str s] ∧ Γ.val 548 [.str s] = .str (dashS s)
/-- linchpin/lock.plain -/
def lock_plain : AFunc := { np := 1, ns := 3, res := [⟨1, none⟩], rsh := [[.a]], body := (.seq (.reg false [⟨.mv (.c (.str [])), none⟩] [(1, 0)]) (.seq (.seq (.reg false [⟨.mv (.s 0), none⟩, ⟨.bin .eql (.l 0) (.c (.str [45])), none⟩] [(2, 1)]) (.cond (.s 2) (.seq (.reg false [⟨.mv (.c (.str [])), none⟩] [(1, 0)]) .ret) .skip)) (.seq (.reg false [⟨.mv (.s 0), none⟩, ⟨.mv (.l 0), none⟩] [(1, 1)]) .ret))) }
theorem w733 {Γ : Ctx} (hm : (Γ.at 0).Mono)  (s : Str)  : wpA (Γ.at 0) lock_plain.body (Res lock_plain (.str (undashS s)) : Ex → List Ent → St → Prop) (env0 lock_plain [.str s]) ⟨0, []⟩ := by
  show wpA _ _ _ [⟨true, .str s⟩, .un, .un] ⟨0, []⟩
  refine wp_regseq ?_; refine r_mv ?_; refine reg_end (env' := [_, ⟨_, (.str _)⟩, _]) ?_; refine wp_assoc ?_; refine wp_regseq ?_; refine r_mv ?_; refine r_eqlS ?_; refine reg_end (env' := [_, _, ⟨_, (.bool _)⟩]) ?_
  refine wp_condseq (fun hc0 => ?_) (fun hc0 => ?_)
  · try simp only [b0, b1, b2, b3, b4, b5, b6, b7, b8, b9, b10, b11] at hc0
    refine wp_assoc ?_; refine wp_regseq ?_; refine r_mv ?_; refine reg_end (env' := [_, ⟨_, (.str _)⟩, _]) ?_; refine wp_retseq ?_
    refine res_of trivial q2 q3 (Eq.trans q7 (congrArg D.str ?_))
    simp [undashS, hc0]
  · try simp only [b0, b1, b2, b3, b4, b5, b6, b7, b8, b9, b10, b11] at hc0
    refine wp_skipseq ?_; refine wp_regseq ?_; refine r_mv ?_; refine r_mv ?_; refine reg_end (env' := [_, ⟨_, (.str _)⟩, _]) ?_; refine wp_ret ?_
    refine res_of trivial q2 q3 (Eq.trans q7 (congrArg D.str ?_))
    simp [undashS, hc0]
def C733 (Γ : Ctx) : Prop := ∀ (s : Str), Γ.pre 733 [.str s] ∧ Γ.val 733 [.str s] = .str (undashS s)
/-- linchpin/linchpinref33.Keeps -/
def ref33_Keeps : AFunc := { np := 1, ns := 7, res := [⟨1, none⟩], rsh := [[.sl 6 [.a, .a, .a, .a, .a, .a]]], body := (.seq (.reg false [⟨.box 4 (.s 0), none⟩, ⟨.mv (.c (.nils)), none⟩] [(3, 0), (1, 1)]) (.seq (.reg false [⟨.mv (.c (.nils)), none⟩] [(6, 0)]) (.seq (.seq (.reg false [⟨.mv (.c (.int .i64 0)), none⟩] [(2, 0)]) (.block 0 (.loop (.seq (.seq (.reg false [⟨.mv (.s 2), none⟩, ⟨.fa 3 (.s 3), none⟩, ⟨.ld 1 false (.l 1), none⟩, ⟨.len (.l 2), none⟩, ⟨.bin .lss (.l 0) (.l 3), none⟩] [(4, 4)]) (.cond (.s 4) .skip (.exit 0))) (.seq (.block 1 (.seq (.reg false [⟨.fa 3 (.s 3), none⟩, ⟨.ld 1 false (.l 0), none⟩, ⟨.mv (.s 2), none⟩, ⟨.ia 9 (.l 1) (.l 2), none⟩, ⟨.fa 6 (.l 3), none⟩, ⟨.ld 1 false (.l 4), none⟩, ⟨.bin .neq (.l 5) (.c (.str [])), none⟩] [(5, 6)]) (.cond (.s 5) (.reg true [⟨.mv (.s 6), none⟩, ⟨.fa 3 (.s 3), none⟩, ⟨.ld 1 false (.l 1), none⟩, ⟨.mv (.s 2), none⟩, ⟨.ia 9 (.l 2) (.l 3), none⟩, ⟨.fa 0 (.l 4), none⟩, ⟨.ld 1 false (.l 5), none⟩, ⟨.fa 3 (.s 3), none⟩, ⟨.ld 1 false (.l 7), none⟩, ⟨.mv (.s 2), none⟩, ⟨.ia 9 (.l 8) (.l 9), none⟩, ⟨.fa 1 (.l 10), none⟩, ⟨.ld 5 true (.l 11), none⟩, ⟨.build [.str [], .int .i64 0, .int .i64 0, .int .i64 0, .str [], .str []] [(0, 1, (.l 6)), (1, 5, (.l 12))], none⟩, ⟨.bsl 6 (.agg [.str [], .int .i64 0, .int .i64 0, .int .i64 0, .str [], .str []]) 1 [(0, (.l 13))], none⟩, ⟨.app 6 (.l 0) (.l 14), none⟩, ⟨.mv (.l 15), none⟩] [(6, 16)]) .skip))) (.reg false [⟨.mv (.s 2), none⟩, ⟨.bin .add (.l 0) (.c (.int .i64 1)), none⟩, ⟨.mv (.l 1), none⟩] [(2, 2)])))))) (.seq (.reg false [⟨.mv (.s 6), none⟩, ⟨.mv (.l 0), none⟩] [(1, 1)]) .ret)))) }
theorem w594 {Γ : Ctx} (hm : (Γ.at 0).Mono)  (l : Lck) (hp0 : l.sm) : wpA (Γ.at 0) ref33_Keeps.body (Res ref33_Keeps (.sl 6 ((keepsL l.lines).map Kp.D)) : Ex → List Ent → St → Prop) (env0 ref33_Keeps [Lck.D l]) ⟨0, []⟩ := by
  show wpA _ _ _ [⟨true, Lck.D l⟩, .un, .un, .un, .un, .un, .un] ⟨0, []⟩
  have hsz := hp0.1
  refine wp_regseq ?_; refine r_box ?_; refine r_mv ?_; refine reg_end (env' := [_, ⟨_, .nils⟩, _, ⟨_, _⟩, _, _, _]) ?_; refine wp_regseq ?_; refine r_mv ?_; refine reg_end (env' := [_, _, _, _, _, _, ⟨_, .nils⟩]) ?_; refine wp_assoc ?_; refine wp_regseq ?_; refine r_mv ?_; refine reg_end (env' := [_, _, ⟨_, (.int _ _)⟩, _, _, _, _]) ?_
  refine wp_for hm (ι := Nat) (fun i => [.un, .un, ⟨true, .int .i64 (i : Nat)⟩, ⟨true, .ptr 0 4 0 0⟩, .un, .un, ⟨true, .own 1 6 0 (keepsL (l.lines.take i)).length⟩]) (fun i => [(0, .buf 4 [Lck.D l]), (1, .buf 6 ((keepsL (l.lines.take i)).map Kp.D))]) 4 (fun i => i ≤ l.lines.length) (fun i => l.lines.length - i) 0 (by omega) (Ghost.to [(0, 0)] q7 q7 (by repeat (first | exact RnE.nil | refine RnE.un ?_ | refine RnE.eq q7 ?_ | refine RnE.nl q7 q7 ?_ | refine RnE.ni (Or.inr ⟨1, 6, 0, rfl⟩) ?_)) (by (first | refine RnM.idn q7 q7 q5 ?_ | refine RnM.ide q7 q7 q7 ?_ | refine RnM.idi q7 q7 q7 q7 ?_); refine RnM.mt q7 q7 q7 q7 ?_; exact RnM.nil)) ?_
  intro i hi
  have hk := keeps_len (l.lines.take i)
  simp only [List.length_take] at hk
  refine wp_assoc ?_; refine wp_regseq ?_; refine r_mv ?_; refine r_faP ?_
  first | refine r_ldF (v := .sl _ _) ?_ | refine r_ldF (v := .own _ _ _ _) ?_ | refine r_ldF (v := .nils) ?_
  refine r_lenM fun hlR3_3 => ?_; replace hlR3_3 := hlR3_3 rfl rfl
  refine r_lssI ?_; refine reg_end (env' := [_, _, _, _, ⟨_, (.bool _)⟩, _, _]) ?_
  refine wp_condseq (fun hc0 => ?_) (fun hc0 => ?_)
  · try simp only [b0, b1, b2, b3, b4, b5, b6, b7, b8, b9, b10, b11] at hc0
    refine wp_skipseq ?_
    refine wp_blockseq ?_ hm
    refine wp_regseq ?_; refine r_faP ?_
    first | refine r_ldF (v := .sl _ _) ?_ | refine r_ldF (v := .own _ _ _ _) ?_ | refine r_ldF (v := .nils) ?_
    refine r_mv ?_
    first | refine r_iaM _ ?_ | refine r_iaMT ?_
    refine r_faR ?_
    first | refine r_ldR (v := (.str _)) ?_ | refine r_ldQ (v := (.str _)) ?_
    refine r_neqS ?_; refine reg_end (env' := [_, _, _, _, _, ⟨_, (.bool _)⟩, _]) ?_
    refine wp_cond (fun hc1 => ?_) (fun hc1 => ?_)
    · try simp only [b0, b1, b2, b3, b4, b5, b6, b7, b8, b9, b10, b11] at hc1
      refine wp_reg ?_; refine r_mv ?_; refine r_faP ?_
      first | refine r_ldF (v := .sl _ _) ?_ | refine r_ldF (v := .own _ _ _ _) ?_ | refine r_ldF (v := .nils) ?_
      refine r_mv ?_
      first | refine r_iaM _ ?_ | refine r_iaMT ?_
      refine r_faR ?_
      first | refine r_ldR (v := (.str _)) ?_ | refine r_ldQ (v := (.str _)) ?_
      refine r_faP ?_
      first | refine r_ldF (v := .sl _ _) ?_ | refine r_ldF (v := .own _ _ _ _) ?_ | refine r_ldF (v := .nils) ?_
      refine r_mv ?_
      first | refine r_iaM _ ?_ | refine r_iaMT ?_
      refine r_faR ?_
      first | refine r_ldR (v := (Ver.D _)) ?_ | refine r_ldQ (v := (Ver.D _)) ?_
      refine r_buildD (Kp.D ⟨l.lines[i]!.name, l.lines[i]!.v⟩) ?_; refine r_bsl [Kp.D _] ?_; refine r_app1 ?_; refine r_mv ?_; refine reg_fin (env' := [_, _, _, _, _, _, ⟨_, (.own _ _ _ _)⟩]) ?_; refine BQ.normal ?_; refine wp_reg ?_; refine r_mv ?_; refine r_add64 ?_; refine r_mv ?_; refine reg_fin (env' := [_, _, ⟨_, (.int _ _)⟩, _, _, _, _]) ?_; refine LQ.normal ?_
      have hq := filter_take l.lines i (by omega)
      rw [if_neg hc1] at hq
      rw [← hq]
      exact ⟨i + 1, (by omega), by omega, (Ghost.to [(0, 0), (31, 1)] q7 q7 q6 (by (first | refine RnM.idn q7 q7 q5 ?_ | refine RnM.ide q7 q7 q7 ?_ | refine RnM.idi q7 q7 q7 q7 ?_); refine RnM.nl 31 q7 q7 q7 q5 ?_; exact RnM.nil))⟩
    · try simp only [b0, b1, b2, b3, b4, b5, b6, b7, b8, b9, b10, b11] at hc1
      refine wp_skip ?_; refine BQ.normal ?_; refine wp_reg ?_; refine r_mv ?_; refine r_add64 ?_; refine r_mv ?_; refine reg_fin (env' := [_, _, ⟨_, (.int _ _)⟩, _, _, _, _]) ?_; refine LQ.normal ?_
      have hq := filter_take l.lines i (by omega)
      rw [if_pos hc1, List.append_nil] at hq
      rw [← hq]
      exact ⟨i + 1, (by omega), by omega, (Ghost.to [(0, 0), (1, 1)] q7 q7 q6 (by (first | refine RnM.idn q7 q7 q5 ?_ | refine RnM.ide q7 q7 q7 ?_ | refine RnM.idi q7 q7 q7 q7 ?_); (first | refine RnM.idn q7 q7 q5 ?_ | refine RnM.ide q7 q7 q7 ?_ | refine RnM.idi q7 q7 q7 q7 ?_); exact RnM.nil))⟩
  · try simp only [b0, b1, b2, b3, b4, b5, b6, b7, b8, b9, b10, b11] at hc0
    refine wp_exitseq ?_; refine LQ.out ?_; refine wp_regseq ?_; refine r_mv ?_; refine r_mv ?_; refine reg_end (env' := [_, ⟨_, (.own _ _ _ _)⟩, _, _, _, _, _]) ?_; refine wp_fz 1 ?_; refine wp_ret ?_
    refine res_of trivial q2 q3 (Eq.trans q7 (?_))
    have ht : l.lines.take i = l.lines := List.take_of_length_le (by omega)
    rw [ht]
    exact rfl
def C594 (Γ : Ctx) : Prop := ∀ (l : Lck), (l.sm) → Γ.pre 594 [Lck.D l] ∧ Γ.val 594 [Lck.D l] = .sl 6 ((keepsL l.lines).map Kp.D)
/-- linchpin/lock.Keeps -/
def lock_Keeps : AFunc := { np := 1, ns := 10, res := [⟨1, none⟩], rsh := [[.sl 6 [.a, .a, .a, .a, .a, .a]]], body := (.seq (.reg false [⟨.box 4 (.s 0), none⟩, ⟨.mv (.c (.nils)), none⟩] [(2, 0), (1, 1)]) (.seq (.reg false [⟨.mv (.c (.nils)), none⟩] [(9, 0)]) (.seq (.seq (.reg false [⟨.fa 3 (.s 2), none⟩, ⟨.ld 1 false (.l 0), none⟩, ⟨.len (.l 1), none⟩, ⟨.mv (.c (.int .i64 0)), none⟩] [(6, 1), (4, 2), (3, 3)]) (.block 0 (.loop (.seq (.reg false [⟨.bin .lss (.s 3) (.s 4), none⟩] [(5, 0)]) (.seq (.cond (.s 5) .skip (.exit 0)) (.seq (.block 1 (.seq (.reg false [⟨.ia 9 (.s 6) (.s 3), none⟩, ⟨.ld 9 true (.l 0), none⟩, ⟨.box 9 (.c (.agg [.str [], .int .i64 0, .int .i64 0, .int .i64 0, .str [], .str [], .str [], .int .u64 0, .nils])), none⟩, ⟨.st 9 (.l 2) (.l 1), none⟩] [(7, 2)]) (.seq (.reg false [⟨.fa 6 (.s 7), none⟩, ⟨.ld 1 false (.l 0), none⟩, ⟨.bin .neq (.l 1) (.c (.str [])), none⟩] [(8, 2)]) (.cond (.s 8) (.reg false [⟨.mv (.s 9), none⟩, ⟨.fa 0 (.s 7), none⟩, ⟨.ld 1 false (.l 1), none⟩, ⟨.fa 1 (.s 7), none⟩, ⟨.ld 5 true (.l 3), none⟩, ⟨.build [.str [], .int .i64 0, .int .i64 0, .int .i64 0, .str [], .str []] [(0, 1, (.l 2)), (1, 5, (.l 4))], none⟩, ⟨.bsl 6 (.agg [.str [], .int .i64 0, .int .i64 0, .int .i64 0, .str [], .str []]) 1 [(0, (.l 5))], none⟩, ⟨.app 6 (.l 0) (.l 6), none⟩, ⟨.mv (.l 7), none⟩] [(9, 8)]) .skip)))) (.reg false [⟨.bin .add (.s 3) (.c (.int .i64 1)), none⟩, ⟨.mv (.l 0), none⟩] [(3, 1)]))))))) (.seq (.reg false [⟨.mv (.s 9), none⟩, ⟨.mv (.l 0), none⟩] [(1, 1)]) .ret)))) }
theorem w101 {Γ : Ctx} (hm : (Γ.at 0).Mono)  (l : Lck) (hp0 : l.sm) : wpA (Γ.at 0) lock_Keeps.body (Res lock_Keeps (.sl 6 ((keepsL l.lines).map Kp.D)) : Ex → List Ent → St → Prop) (env0 lock_Keeps [Lck.D l]) ⟨0, []⟩ := by
  show wpA _ _ _ [⟨true, Lck.D l⟩, .un, .un, .un, .un, .un, .un, .un, .un, .un] ⟨0, []⟩
  have hsz := hp0.1
  refine wp_regseq ?_; refine r_box ?_; refine r_mv ?_; refine reg_end (env' := [_, ⟨_, .nils⟩, ⟨_, _⟩, _, _, _, _, _, _, _]) ?_; refine wp_regseq ?_; refine r_mv ?_; refine reg_end (env' := [_, _, _, _, _, _, _, _, _, ⟨_, .nils⟩]) ?_; refine wp_assoc ?_; refine wp_regseq ?_; refine r_faP ?_
  first | refine r_ldF (v := .sl _ _) ?_ | refine r_ldF (v := .own _ _ _ _) ?_ | refine r_ldF (v := .nils) ?_
  refine r_lenM fun hlR2_2 => ?_; replace hlR2_2 := hlR2_2 rfl rfl
  refine r_mv ?_; refine reg_end (env' := [_, _, _, ⟨_, (.int _ _)⟩, ⟨_, (.int _ _)⟩, _, ⟨_, (.sl _ _)⟩, _, _, _]) ?_
  refine wp_for hm (ι := Nat) (fun i => [.un, .un, ⟨true, .ptr 0 4 0 0⟩, ⟨true, .int .i64 (i : Nat)⟩, ⟨true, .int .i64 (l.lines.length : Nat)⟩, .un, ⟨true, .sl 9 (l.lines.map Lkd.D)⟩, .un, .un, ⟨true, .own 1 6 0 (keepsL (l.lines.take i)).length⟩]) (fun i => [(0, .buf 4 [Lck.D l]), (1, .buf 6 ((keepsL (l.lines.take i)).map Kp.D))]) 7 (fun i => i ≤ l.lines.length) (fun i => l.lines.length - i) 0 (by omega) (Ghost.to [(0, 0)] q7 q7 (by repeat (first | exact RnE.nil | refine RnE.un ?_ | refine RnE.eq q7 ?_ | refine RnE.nl q7 q7 ?_ | refine RnE.ni (Or.inr ⟨1, 6, 0, rfl⟩) ?_)) (by (first | refine RnM.idn q7 q7 q5 ?_ | refine RnM.ide q7 q7 q7 ?_ | refine RnM.idi q7 q7 q7 q7 ?_); refine RnM.mt q7 q7 q7 q7 ?_; exact RnM.nil)) ?_
  intro i hi
  have hk := keeps_len (l.lines.take i)
  simp only [List.length_take] at hk
  refine wp_regseq ?_; refine r_lssI ?_; refine reg_end (env' := [_, _, _, _, _, ⟨_, (.bool _)⟩, _, _, _, _]) ?_
  refine wp_condseq (fun hc0 => ?_) (fun hc0 => ?_)
  · try simp only [b0, b1, b2, b3, b4, b5, b6, b7, b8, b9, b10, b11] at hc0
    refine wp_skipseq ?_
    refine wp_blockseq ?_ hm
    refine wp_regseq ?_
    first | refine r_iaM _ ?_ | refine r_iaMT ?_
    first | refine r_ldR (v := (Lkd.D _)) ?_ | refine r_ldQ (v := (Lkd.D _)) ?_
    refine r_box ?_; refine r_stF _ ?_; refine reg_end (env' := [_, _, _, _, _, _, _, ⟨_, _⟩, _, _]) ?_; refine wp_regseq ?_; refine r_faP ?_; refine r_ldF (v := (.str _)) ?_; refine r_neqS ?_; refine reg_end (env' := [_, _, _, _, _, _, _, _, ⟨_, (.bool _)⟩, _]) ?_
    refine wp_cond (fun hc1 => ?_) (fun hc1 => ?_)
    · try simp only [b0, b1, b2, b3, b4, b5, b6, b7, b8, b9, b10, b11] at hc1
      refine wp_reg ?_; refine r_mv ?_; refine r_faP ?_; refine r_ldF (v := (.str _)) ?_; refine r_faP ?_; refine r_ldF (v := (Ver.D _)) ?_; refine r_buildD (Kp.D ⟨l.lines[i]!.name, l.lines[i]!.v⟩) ?_; refine r_bsl [Kp.D _] ?_; refine r_app1 ?_; refine r_mv ?_; refine reg_fin (env' := [_, _, _, _, _, _, _, _, _, ⟨_, (.own _ _ _ _)⟩]) ?_; refine BQ.normal ?_; refine wp_reg ?_; refine r_add64 ?_; refine r_mv ?_; refine reg_fin (env' := [_, _, _, ⟨_, (.int _ _)⟩, _, _, _, _, _, _]) ?_; refine LQ.normal ?_
      have hq := filter_take l.lines i (by omega)
      rw [if_neg hc1] at hq
      rw [← hq]
      exact ⟨i + 1, (by omega), by omega, (Ghost.to [(0, 0), (22, 1)] q7 q7 q6 (by (first | refine RnM.idn q7 q7 q5 ?_ | refine RnM.ide q7 q7 q7 ?_ | refine RnM.idi q7 q7 q7 q7 ?_); refine RnM.nl 22 q7 q7 q7 q5 ?_; exact RnM.nil))⟩
    · try simp only [b0, b1, b2, b3, b4, b5, b6, b7, b8, b9, b10, b11] at hc1
      refine wp_skip ?_; refine BQ.normal ?_; refine wp_reg ?_; refine r_add64 ?_; refine r_mv ?_; refine reg_fin (env' := [_, _, _, ⟨_, (.int _ _)⟩, _, _, _, _, _, _]) ?_; refine LQ.normal ?_
      have hq := filter_take l.lines i (by omega)
      rw [if_pos hc1, List.append_nil] at hq
      rw [← hq]
      exact ⟨i + 1, (by omega), by omega, (Ghost.to [(0, 0), (1, 1)] q7 q7 q6 (by (first | refine RnM.idn q7 q7 q5 ?_ | refine RnM.ide q7 q7 q7 ?_ | refine RnM.idi q7 q7 q7 q7 ?_); (first | refine RnM.idn q7 q7 q5 ?_ | refine RnM.ide q7 q7 q7 ?_ | refine RnM.idi q7 q7 q7 q7 ?_); exact RnM.nil))⟩
  · try simp only [b0, b1, b2, b3, b4, b5, b6, b7, b8, b9, b10, b11] at hc0
    refine wp_exitseq ?_; refine LQ.out ?_; refine wp_regseq ?_; refine r_mv ?_; refine r_mv ?_; refine reg_end (env' := [_, ⟨_, (.own _ _ _ _)⟩, _, _, _, _, _, _, _, _]) ?_; refine wp_fz 1 ?_; refine wp_ret ?_
    refine res_of trivial q2 q3 (Eq.trans q7 (?_))
    have ht : l.lines.take i = l.lines := List.take_of_length_le (by omega)
    rw [ht]
    exact rfl
def C101 (Γ : Ctx) : Prop := ∀ (l : Lck), (l.sm) → Γ.pre 101 [Lck.D l] ∧ Γ.val 101 [Lck.D l] = .sl 6 ((keepsL l.lines).map Kp.D)
/-- linchpin/linchpinref33.line -/
def ref33_line : AFunc := { np := 1, ns := 6, res := [⟨1, none⟩], rsh := [[.a]], body := (.seq (.reg false [⟨.box 9 (.s 0), none⟩, ⟨.mv (.c (.str [])), none⟩] [(2, 0), (1, 1)]) (.seq (.reg true [⟨.fa 0 (.s 2), none⟩, ⟨.ld 1 false (.l 0), none⟩, ⟨.bin .add (.l 1) (.c (.str [32])), none⟩, ⟨.fa 1 (.s 2), none⟩, ⟨.ld 5 true (.l 3), none⟩, ⟨.call 316 [(.l 4)] [[.a, .a, .a, .a, .a]], none⟩, ⟨.bin .add (.l 2) (.l 5), none⟩, ⟨.bin .add (.l 6) (.c (.str [32])), none⟩, ⟨.fa 6 (.s 2), none⟩, ⟨.ld 1 false (.l 8), none⟩, ⟨.call 894 [(.l 9)] [[.a]], none⟩, ⟨.bin .add (.l 7) (.l 10), none⟩, ⟨.bin .add (.l 11) (.c (.str [32])), none⟩, ⟨.fa 7 (.s 2), none⟩, ⟨.ld 1 false (.l 13), none⟩, ⟨.call 313 [(.l 14)] [[.a]], none⟩, ⟨.bin .add (.l 12) (.l 15), none⟩, ⟨.mv (.l 16), none⟩] [(5, 17)]) (.seq (.seq (.reg false [⟨.mv (.c (.int .i64 0)), none⟩] [(3, 0)]) (.block 0 (.loop (.seq (.seq (.reg false [⟨.mv (.s 3), none⟩, ⟨.fa 8 (.s 2), none⟩, ⟨.ld 1 false (.l 1), none⟩, ⟨.len (.l 2), none⟩, ⟨.bin .lss (.l 0) (.l 3), none⟩] [(4, 4)]) (.cond (.s 4) .skip (.exit 0))) (.seq (.block 1 (.reg false [⟨.mv (.s 5), none⟩, ⟨.bin .add (.l 0) (.c (.str [32])), none⟩, ⟨.fa 8 (.s 2), none⟩, ⟨.ld 1 false (.l 2), none⟩, ⟨.mv (.s 3), none⟩, ⟨.ia 1 (.l 3) (.l 4), none⟩, ⟨.ld 1 false (.l 5), none⟩, ⟨.bin .add (.l 1) (.l 6), none⟩, ⟨.mv (.l 7), none⟩] [(5, 8)])) (.reg false [⟨.mv (.s 3), none⟩, ⟨.bin .add (.l 0) (.c (.int .i64 1)), none⟩, ⟨.mv (.l 1), none⟩] [(3, 2)])))))) (.seq (.reg false [⟨.mv (.s 5), none⟩, ⟨.mv (.l 0), none⟩] [(1, 1)]) .ret)))) }
theorem w895 {Γ : Ctx} (hm : (Γ.at 0).Mono) (h313 : C313 (Γ.at 0)) (h316 : C316 (Γ.at 0)) (h894 : C894 (Γ.at 0)) (x : Lkd) (hp0 : x.sm) : wpA (Γ.at 0) ref33_line.body (Res ref33_line (.str (lkdS x)) : Ex → List Ent → St → Prop) (env0 ref33_line [Lkd.D x]) ⟨0, []⟩ := by
  show wpA _ _ _ [⟨true, Lkd.D x⟩, .un, .un, .un, .un, .un] ⟨0, []⟩
  have hf := hp0
  obtain ⟨hv, hn, hs, hfl, hft⟩ := hf
  have a1 := verP_len x.v hv
  have a3 := dashS_len x.shelf
  have a4 := textL_len x.sum
  refine wp_regseq ?_; refine r_box ?_; refine r_mv ?_; refine reg_end (env' := [_, ⟨_, (.str _)⟩, ⟨_, _⟩, _, _, _]) ?_; refine wp_regseq ?_; refine r_faP ?_; refine r_ldF (v := (.str _)) ?_
  refine r_addS (hb := fun _ => by simp only [List.length_append, List.length_cons, List.length_nil]; omega) ?_
  refine r_faP ?_; refine r_ldF (v := (Ver.D _)) ?_; refine r_call (hc := h316 x.v hv) ?_
  refine r_addS (hb := fun _ => by simp only [List.length_append, List.length_cons, List.length_nil]; omega) ?_
  refine r_addS (hb := fun _ => by simp only [List.length_append, List.length_cons, List.length_nil]; omega) ?_
  refine r_faP ?_; refine r_ldF (v := (.str _)) ?_; refine r_call (hc := h894 _) ?_
  refine r_addS (hb := fun _ => by simp only [List.length_append, List.length_cons, List.length_nil]; omega) ?_
  refine r_addS (hb := fun _ => by simp only [List.length_append, List.length_cons, List.length_nil]; omega) ?_
  refine r_faP ?_; refine r_ldF (v := (.int _ _)) ?_; refine r_call (hc := h313 _) ?_
  refine r_addS (hb := fun _ => by simp only [List.length_append, List.length_cons, List.length_nil]; omega) ?_
  refine r_mv ?_; refine reg_end (env' := [_, _, _, _, _, ⟨_, (.str _)⟩]) ?_; refine wp_assoc ?_; refine wp_regseq ?_; refine r_mv ?_; refine reg_end (env' := [_, _, _, ⟨_, (.int _ _)⟩, _, _]) ?_
  refine wp_for hm (ι := Nat) (fun i => [.un, .un, ⟨true, .ptr 0 9 0 0⟩, ⟨true, .int .i64 (i : Nat)⟩, .un, ⟨true, .str (x.name ++ [32] ++ verP x.v ++ [32] ++ dashS x.shelf ++ [32] ++ textL x.sum ++ featsS (x.feats.take i))⟩]) (fun i => [(0, .buf 9 [Lkd.D x])]) 21 (fun i => i ≤ x.feats.length) (fun i => x.feats.length - i) 0 (by omega) (Ghost.to [(0, 0)] q7 q7 (by repeat (first | exact RnE.nil | refine RnE.un ?_ | refine RnE.eq q7 ?_ | refine RnE.nl (congrArg D.str (by simp [featsS])) q7 ?_)) q1) ?_
  intro i hi
  have a2 := featsS_len (x.feats.take i) (by simp; omega) (fun t ht => hft t (List.mem_of_mem_take ht))
  refine wp_assoc ?_; refine wp_regseq ?_; refine r_mv ?_; refine r_faP ?_
  first | refine r_ldF (v := .sl _ _) ?_ | refine r_ldF (v := .own _ _ _ _) ?_ | refine r_ldF (v := .nils) ?_
  refine r_lenM fun hlR3_3 => ?_; replace hlR3_3 := hlR3_3 rfl rfl
  refine r_lssI ?_; refine reg_end (env' := [_, _, _, _, ⟨_, (.bool _)⟩, _]) ?_
  refine wp_condseq (fun hc0 => ?_) (fun hc0 => ?_)
  · try simp only [b0, b1, b2, b3, b4, b5, b6, b7, b8, b9, b10, b11] at hc0
    refine wp_skipseq ?_
    refine wp_blockseq ?_ hm
    refine wp_reg ?_
    have h20 := hft _ (mem_get (show i < x.feats.length by omega))
    refine r_mv ?_
    refine r_addS (hb := fun _ => by simp only [List.length_append, List.length_cons, List.length_nil]; omega) ?_
    refine r_faP ?_
    first | refine r_ldF (v := .sl _ _) ?_ | refine r_ldF (v := .own _ _ _ _) ?_ | refine r_ldF (v := .nils) ?_
    refine r_mv ?_
    first | refine r_iaM _ ?_ | refine r_iaMT ?_
    first | refine r_ldR (v := (.str _)) ?_ | refine r_ldQ (v := (.str _)) ?_
    refine r_addS (hb := fun _ => by simp only [List.length_append, List.length_cons, List.length_nil]; omega) ?_
    refine r_mv ?_; refine reg_fin (env' := [_, _, _, _, _, ⟨_, (.str _)⟩]) ?_; refine BQ.normal ?_; refine wp_reg ?_; refine r_mv ?_; refine r_add64 ?_; refine r_mv ?_; refine reg_fin (env' := [_, _, _, ⟨_, (.int _ _)⟩, _, _]) ?_; refine LQ.normal ?_
    have hq := featsS_take x.feats i (by omega)
    exact ⟨i + 1, (by omega), by omega, (Ghost.to [(0, 0)] q7 q7 (by repeat (first | exact RnE.nil | refine RnE.un ?_ | refine RnE.eq q7 ?_ | refine RnE.nl (congrArg D.str (by rw [hq]; simp [List.append_assoc])) q7 ?_)) q1)⟩
  · try simp only [b0, b1, b2, b3, b4, b5, b6, b7, b8, b9, b10, b11] at hc0
    refine wp_exitseq ?_; refine LQ.out ?_; refine wp_regseq ?_; refine r_mv ?_; refine r_mv ?_; refine reg_end (env' := [_, ⟨_, (.str _)⟩, _, _, _, _]) ?_; refine wp_ret ?_
    refine res_of trivial q2 q3 (Eq.trans q7 (congrArg D.str ?_))
    rw [List.take_of_length_le (by omega)]; rfl
def C895 (Γ : Ctx) : Prop := ∀ (x : Lkd), (x.sm) → Γ.pre 895 [Lkd.D x] ∧ Γ.val 895 [Lkd.D x] = .str (lkdS x)
/-- (linchpin/lock.line).text -/
def lock_line_text : AFunc := { np := 1, ns := 4, res := [⟨1, none⟩], rsh := [[.a]], body := (.seq (.reg false [⟨.box 9 (.s 0), none⟩, ⟨.mv (.c (.str [])), none⟩] [(2, 0), (1, 1)]) (.seq (.reg true [⟨.fa 0 (.s 2), none⟩, ⟨.fa 0 (.l 0), none⟩, ⟨.ld 1 false (.l 1), none⟩, ⟨.fa 0 (.s 2), none⟩, ⟨.fa 1 (.l 3), none⟩, ⟨.ld 5 true (.l 4), none⟩, ⟨.call 451 [(.l 5)] [[.a, .a, .a, .a, .a]], none⟩, ⟨.fa 0 (.s 2), none⟩, ⟨.fa 6 (.l 7), none⟩, ⟨.ld 1 false (.l 8), none⟩, ⟨.call 548 [(.l 9)] [[.a]], none⟩, ⟨.fa 0 (.s 2), none⟩, ⟨.fa 7 (.l 11), none⟩, ⟨.ld 1 false (.l 12), none⟩, ⟨.call 497 [(.l 13)] [[.a]], none⟩, ⟨.bsl 1 (.str []) 4 [(0, (.l 2)), (1, (.l 6)), (2, (.l 10)), (3, (.l 14))], none⟩, ⟨.mv (.l 15), none⟩] [(3, 16)]) (.seq (.reg false [⟨.mv (.s 3), none⟩, ⟨.fa 0 (.s 2), none⟩, ⟨.fa 8 (.l 1), none⟩, ⟨.ld 1 false (.l 2), none⟩, ⟨.app 1 (.l 0) (.l 3), none⟩, ⟨.call 242 [(.l 4), (.c (.str [32]))] [[.sl 1 [.a]], [.a]], none⟩, ⟨.mv (.l 5), none⟩] [(1, 6)]) .ret))) }
theorem w549 {Γ : Ctx} (hm : (Γ.at 0).Mono) (h242 : C242 (Γ.at 0)) (h451 : C451 (Γ.at 0)) (h497 : C497 (Γ.at 0)) (h548 : C548 (Γ.at 0)) (x : Lkd) (hp0 : x.sm) : wpA (Γ.at 0) lock_line_text.body (Res lock_line_text (.str (lkdS x)) : Ex → List Ent → St → Prop) (env0 lock_line_text [Lkd.D x]) ⟨0, []⟩ := by
  show wpA _ _ _ [⟨true, Lkd.D x⟩, .un, .un, .un] ⟨0, []⟩
  have hf := hp0
  obtain ⟨hv, hn, hs, hfl, hft⟩ := hf
  have a1 := verP_len x.v hv
  have a3 := dashS_len x.shelf
  have a4 := textL_len x.sum
  refine wp_regseq ?_; refine r_box ?_; refine r_mv ?_; refine reg_end (env' := [_, ⟨_, (.str _)⟩, ⟨_, _⟩, _]) ?_; refine wp_regseq ?_; refine r_faP ?_; refine r_faP ?_; refine r_ldF (v := (.str _)) ?_; refine r_faP ?_; refine r_faP ?_; refine r_ldF (v := (Ver.D _)) ?_; refine r_call (hc := h451 x.v hv) ?_; refine r_faP ?_; refine r_faP ?_; refine r_ldF (v := (.str _)) ?_; refine r_call (hc := h548 _) ?_; refine r_faP ?_; refine r_faP ?_; refine r_ldF (v := (.int _ _)) ?_; refine r_call (hc := h497 _) ?_; refine r_bsl [(.str _), (.str _), (.str _), (.str _)] ?_; refine r_mv ?_; refine reg_end (env' := [_, _, _, ⟨_, (.own _ _ _ _)⟩]) ?_
  refine wp_regseq ?_
  have hj : ∀ t ∈ [x.name, verP x.v, dashS x.shelf, textL x.sum] ++ x.feats, t.length ≤ 2097200 := by
    intro t ht
    simp only [List.cons_append, List.nil_append, List.mem_cons] at ht
    rcases ht with rfl | rfl | rfl | rfl | ht
    · omega
    · omega
    · omega
    · omega
    · exact Nat.le_trans (hft t ht) (by omega)
  refine r_mv ?_; refine r_faP ?_; refine r_faP ?_
  first | refine r_ldF (v := .sl _ _) ?_ | refine r_ldF (v := .own _ _ _ _) ?_ | refine r_ldF (v := .nils) ?_
  refine r_appN (xs := [x.name, verP x.v, dashS x.shelf, textL x.sum]) (ys := x.feats) (he := Els.sl) (hb := by simp; omega) ?_
  refine r_call (hc := h242 ([x.name, verP x.v, dashS x.shelf, textL x.sum] ++ x.feats) [32] (by simp; omega) (by simp) hj) (ha := fun _ => congrArg (fun d => [d, D.str [32]]) (xV_own1 (q := D.str) (fun _ => rfl) q7)) (hp := fun _ => ⟨xVO_own1 (q := D.str) (fun _ => rfl) q7, rfl, trivial⟩) ?_
  refine r_mv ?_; refine reg_end (env' := [_, ⟨_, (.str _)⟩, _, _]) ?_; refine wp_ret ?_
  refine res_of trivial q2 q3 (Eq.trans q7 (congrArg D.str ?_))
  exact line_join x
def C549 (Γ : Ctx) : Prop := ∀ (x : Lkd), (x.sm) → Γ.pre 549 [Lkd.D x] ∧ Γ.val 549 [Lkd.D x] = .str (lkdS x)
end Go.Abs
end
section
namespace Go.Abs
open Go
/-- linchpin/linchpinref33.text -/
def ref33_text : AFunc := { np := 1, ns := 8, res := [⟨1, none⟩], rsh := [[.a]], body := (.seq (.reg false [⟨.box 4 (.s 0), none⟩, ⟨.mv (.c (.str [])), none⟩] [(5, 0), (1, 1)]) (.seq (.reg false [⟨.mv (.c (.str [108, 105, 110, 99, 104, 112, 105, 110, 32, 108, 111, 99, 107, 10, 112, 108, 97, 116, 102, 111, 114, 109])), none⟩] [(4, 0)]) (.seq (.seq (.reg false [⟨.mv (.c (.int .i64 0)), none⟩] [(2, 0)]) (.block 0 (.loop (.seq (.seq (.reg false [⟨.mv (.s 2), none⟩, ⟨.bin .lss (.l 0) (.c (.int .i64 3)), none⟩] [(3, 1)]) (.cond (.s 3) .skip (.exit 0))) (.seq (.block 1 (.reg false [⟨.mv (.s 4), none⟩, ⟨.bin .add (.l 0) (.c (.str [32])), none⟩, ⟨.mv (.s 2), none⟩, ⟨.fa 0 (.s 5), none⟩, ⟨.fa 0 (.l 3), none⟩, ⟨.iaP 3 1 (.l 4) (.l 2), none⟩, ⟨.ld 1 false (.l 5), none⟩, ⟨.call 894 [(.l 6)] [[.a]], none⟩, ⟨.bin .add (.l 1) (.l 7), none⟩, ⟨.mv (.l 8), none⟩] [(4, 9)])) (.reg false [⟨.mv (.s 2), none⟩, ⟨.bin .add (.l 0) (.c (.int .i64 1)), none⟩, ⟨.mv (.l 1), none⟩] [(2, 2)])))))) (.seq (.reg false [⟨.mv (.s 4), none⟩, ⟨.bin .add (.l 0) (.c (.str [10])), none⟩, ⟨.mv (.l 1), none⟩] [(4, 2)]) (.seq (.seq (.reg false [⟨.mv (.c (.int .i64 0)), none⟩] [(6, 0)]) (.block 2 (.loop (.seq (.seq (.reg false [⟨.mv (.s 6), none⟩, ⟨.fa 3 (.s 5), none⟩, ⟨.ld 1 false (.l 1), none⟩, ⟨.len (.l 2), none⟩, ⟨.bin .lss (.l 0) (.l 3), none⟩] [(7, 4)]) (.cond (.s 7) .skip (.exit 2))) (.seq (.block 3 (.reg false [⟨.mv (.s 4), none⟩, ⟨.fa 3 (.s 5), none⟩, ⟨.ld 1 false (.l 1), none⟩, ⟨.mv (.s 6), none⟩, ⟨.ia 9 (.l 2) (.l 3), none⟩, ⟨.ld 9 true (.l 4), none⟩, ⟨.call 895 [(.l 5)] [[.a, .a, .a, .a, .a, .a, .a, .a, .sl 1 [.a]]], none⟩, ⟨.bin .add (.l 0) (.l 6), none⟩, ⟨.bin .add (.l 7) (.c (.str [10])), none⟩, ⟨.mv (.l 8), none⟩] [(4, 9)])) (.reg false [⟨.mv (.s 6), none⟩, ⟨.bin .add (.l 0) (.c (.int .i64 1)), none⟩, ⟨.mv (.l 1), none⟩] [(6, 2)])))))) (.seq (.reg false [⟨.mv (.s 4), none⟩, ⟨.bin .add (.l 0) (.c (.str [115, 117, 109, 32])), none⟩, ⟨.mv (.s 4), none⟩, ⟨.s2b (.l 2), none⟩, ⟨.call 221 [(.l 3)] [[.sl 1 [.a]]], none⟩, ⟨.call 313 [(.l 4)] [[.a]], none⟩, ⟨.bin .add (.l 1) (.l 5), none⟩, ⟨.bin .add (.l 6) (.c (.str [10])), none⟩, ⟨.mv (.l 7), none⟩] [(1, 8)]) .ret)))))) }
theorem w743 {Γ : Ctx} (hm : (Γ.at 0).Mono) (h221 : C221 (Γ.at 0)) (h313 : C313 (Γ.at 0)) (h894 : C894 (Γ.at 0)) (h895 : C895 (Γ.at 0)) (l : Lck) (hp0 : l.sm) : wpA (Γ.at 0) ref33_text.body (Res ref33_text (.str (lckS l)) : Ex → List Ent → St → Prop) (env0 ref33_text [Lck.D l]) ⟨0, []⟩ := by
  show wpA _ _ _ [⟨true, Lck.D l⟩, .un, .un, .un, .un, .un, .un, .un] ⟨0, []⟩
  have hsz := hp0.1
  have hen := hp0.2.2
  have hh := headI_len l.env hen
  refine wp_regseq ?_; refine r_box ?_; refine r_mv ?_; refine reg_end (env' := [_, ⟨_, (.str _)⟩, _, _, _, ⟨_, _⟩, _, _]) ?_; refine wp_regseq ?_; refine r_mv ?_; refine reg_end (env' := [_, _, _, _, ⟨_, (.str _)⟩, _, _, _]) ?_; refine wp_assoc ?_; refine wp_regseq ?_; refine r_mv ?_; refine reg_end (env' := [_, _, ⟨_, (.int _ _)⟩, _, _, _, _, _]) ?_
  refine wp_for hm (ι := Nat) (fun i => [.un, .un, ⟨true, .int .i64 (i : Nat)⟩, .un, ⟨true, .str (headI l.env i)⟩, ⟨true, .ptr 0 4 0 0⟩, .un, .un]) (fun i => [(0, .buf 4 [Lck.D l])]) 4 (fun i => i ≤ 3) (fun i => 3 - i) 0 (by omega) (Ghost.to [(0, 0)] q7 q7 q4 q1) ?_
  intro i hi
  have h1 := hh i
  refine wp_assoc ?_; refine wp_regseq ?_; refine r_mv ?_; refine r_lssI ?_; refine reg_end (env' := [_, _, _, ⟨_, (.bool _)⟩, _, _, _, _]) ?_
  refine wp_condseq (fun hc0 => ?_) (fun hc0 => ?_)
  · try simp only [b0, b1, b2, b3, b4, b5, b6, b7, b8, b9, b10, b11] at hc0
    refine wp_skipseq ?_
    refine wp_blockseq ?_ hm
    refine wp_reg ?_
    have h2 := dashS_len (l.env.at i)
    have h3 := hen i
    refine r_mv ?_
    refine r_addS (hb := fun _ => by simp only [List.length_append, List.length_cons, List.length_nil]; omega) ?_
    refine r_mv ?_; refine r_faP ?_; refine r_faP ?_; refine r_iaPP i ?_
    refine r_ldF (v := .str (l.env.at i)) (hv := fun _ => Lck.ld l (by omega)) ?_
    refine r_call (hc := h894 _) ?_
    refine r_addS (hb := fun _ => by simp only [List.length_append, List.length_cons, List.length_nil]; omega) ?_
    refine r_mv ?_; refine reg_fin (env' := [_, _, _, _, ⟨_, (.str _)⟩, _, _, _]) ?_; refine BQ.normal ?_; refine wp_reg ?_; refine r_mv ?_; refine r_add64 ?_; refine r_mv ?_; refine reg_fin (env' := [_, _, ⟨_, (.int _ _)⟩, _, _, _, _, _]) ?_; refine LQ.normal ?_
    exact ⟨i + 1, (by omega), by omega, (Ghost.to [(0, 0)] q7 q7 q4 q1)⟩
  · try simp only [b0, b1, b2, b3, b4, b5, b6, b7, b8, b9, b10, b11] at hc0
    refine wp_exitseq ?_; refine LQ.out ?_; refine wp_regseq ?_
    have h33 : i = 3 := by omega
    subst h33
    refine r_mv ?_
    refine r_addS (hb := fun _ => by simp only [List.length_append, List.length_cons, List.length_nil]; omega) ?_
    refine r_mv ?_; refine reg_end (env' := [_, _, _, _, ⟨_, (.str _)⟩, _, _, _]) ?_; refine wp_assoc ?_; refine wp_regseq ?_; refine r_mv ?_; refine reg_end (env' := [_, _, _, _, _, _, ⟨_, (.int _ _)⟩, _]) ?_
    refine wp_for hm (ι := Nat) (fun i => [.un, .un, .un, .un, ⟨true, .str (headS l.env ++ linesS (l.lines.take i))⟩, ⟨true, .ptr 0 4 0 0⟩, ⟨true, .int .i64 (i : Nat)⟩, .un]) (fun i => [(0, .buf 4 [Lck.D l])]) 10 (fun i => i ≤ l.lines.length) (fun i => l.lines.length - i) 0 (by omega) (Ghost.to [(0, 0)] q7 q7 (by repeat (first | exact RnE.nil | refine RnE.un ?_ | refine RnE.eq q7 ?_ | refine RnE.nl (congrArg D.str (by simp [linesS, headS])) q7 ?_)) q1) ?_
    intro i hi
    have l1 := linesS_len (l.lines.take i) (by simp; omega) (fun x hx => hp0.2.1 x (List.mem_of_mem_take hx))
    have h0 : (headS l.env).length ≤ 3145790 := by simp only [headS, List.length_append, List.length_cons, List.length_nil]; omega
    refine wp_assoc ?_; refine wp_regseq ?_; refine r_mv ?_; refine r_faP ?_
    first | refine r_ldF (v := .sl _ _) ?_ | refine r_ldF (v := .own _ _ _ _) ?_ | refine r_ldF (v := .nils) ?_
    refine r_lenM fun hlR8_3 => ?_; replace hlR8_3 := hlR8_3 rfl rfl
    refine r_lssI ?_; refine reg_end (env' := [_, _, _, _, _, _, _, ⟨_, (.bool _)⟩]) ?_
    refine wp_condseq (fun hc1 => ?_) (fun hc1 => ?_)
    · try simp only [b0, b1, b2, b3, b4, b5, b6, b7, b8, b9, b10, b11] at hc1
      refine wp_skipseq ?_
      refine wp_blockseq ?_ hm
      refine wp_reg ?_
      have hx := hp0.2.1 _ (mem_get (show i < l.lines.length by omega))
      have h5 := lkdS_len _ hx
      refine r_mv ?_; refine r_faP ?_
      first | refine r_ldF (v := .sl _ _) ?_ | refine r_ldF (v := .own _ _ _ _) ?_ | refine r_ldF (v := .nils) ?_
      refine r_mv ?_
      first | refine r_iaM _ ?_ | refine r_iaMT ?_
      first | refine r_ldR (v := (Lkd.D _)) ?_ | refine r_ldQ (v := (Lkd.D _)) ?_
      refine r_call (hc := h895 l.lines[i]! hx) ?_
      refine r_addS (hb := fun _ => by simp only [List.length_append, List.length_cons, List.length_nil]; omega) ?_
      refine r_addS (hb := fun _ => by simp only [List.length_append, List.length_cons, List.length_nil]; omega) ?_
      refine r_mv ?_; refine reg_fin (env' := [_, _, _, _, ⟨_, (.str _)⟩, _, _, _]) ?_; refine BQ.normal ?_; refine wp_reg ?_; refine r_mv ?_; refine r_add64 ?_; refine r_mv ?_; refine reg_fin (env' := [_, _, _, _, _, _, ⟨_, (.int _ _)⟩, _]) ?_; refine LQ.normal ?_
      have hq := linesS_take l.lines i (by omega)
      exact ⟨i + 1, (by omega), by omega, (Ghost.to [(0, 0)] q7 q7 (by repeat (first | exact RnE.nil | refine RnE.un ?_ | refine RnE.eq q7 ?_ | refine RnE.nl (congrArg D.str (by rw [hq]; simp [List.append_assoc])) q7 ?_)) q1)⟩
    · try simp only [b0, b1, b2, b3, b4, b5, b6, b7, b8, b9, b10, b11] at hc1
      refine wp_exitseq ?_; refine LQ.out ?_; refine wp_regseq ?_
      have ht : l.lines.take i = l.lines := List.take_of_length_le (by omega)
      rw [ht] at l1 ⊢
      have hbo : headS l.env ++ linesS l.lines = bodyS l := rfl
      rw [hbo]
      have l2 : (bodyS l).length ≤ 1153100000003145790 := by simp only [bodyS, List.length_append]; omega
      have l3 := textL_len (sumL (bodyS l))
      refine r_mv ?_
      refine r_addS (hb := fun _ => by simp only [List.length_append, List.length_cons, List.length_nil]; omega) ?_
      refine r_mv ?_; refine r_s2b ?_
      refine r_call (hc := h221 (bodyS l)) (ha := fun _ => congrArg (fun d => [d]) (xV_own1 (q := fun b : UInt8 => D.int .u8 b.toNat) (fun _ => rfl) q7)) (hp := fun _ => ⟨xVO_own1 (q := fun b : UInt8 => D.int .u8 b.toNat) (fun _ => rfl) q7, trivial⟩) ?_
      refine r_call (hc := h313 _) ?_
      refine r_addS (hb := fun _ => by simp only [List.length_append, List.length_cons, List.length_nil]; omega) ?_
      refine r_addS (hb := fun _ => by simp only [List.length_append, List.length_cons, List.length_nil]; omega) ?_
      refine r_mv ?_; refine reg_end (env' := [_, ⟨_, (.str _)⟩, _, _, _, _, _, _]) ?_; refine wp_ret ?_
      refine res_of trivial q2 q3 (Eq.trans q7 (congrArg D.str ?_))
      rfl
def C743 (Γ : Ctx) : Prop := ∀ (l : Lck), (l.sm) → Γ.pre 743 [Lck.D l] ∧ Γ.val 743 [Lck.D l] = .str (lckS l)
/-- linchpin/linchpinref33.Print -/
def ref33_Print : AFunc := { np := 1, ns := 7, res := [⟨1, none⟩, ⟨2, none⟩], rsh := [[.a], [.a]], body := (.seq (.reg false [⟨.box 4 (.s 0), none⟩, ⟨.mv (.c (.str [])), none⟩, ⟨.mv (.c (.int .i64 0)), none⟩] [(3, 0), (1, 1), (2, 2)]) (.seq (.seq (.reg false [⟨.ld 4 true (.s 3), none⟩, ⟨.call 189 [(.l 0)] [[.a, .a, .a, .sl 9 [.a, .a, .a, .a, .a, .a, .a, .a, .sl 1 [.a]]]], none⟩, ⟨.un .not (.l 1), none⟩] [(4, 2)]) (.cond (.s 4) (.seq (.reg false [⟨.mv (.c (.str [])), none⟩, ⟨.mv (.c (.int .i64 34)), none⟩] [(1, 0), (2, 1)]) .ret) .skip)) (.seq (.reg false [⟨.ld 4 true (.s 3), none⟩, ⟨.call 743 [(.l 0)] [[.a, .a, .a, .sl 9 [.a, .a, .a, .a, .a, .a, .a, .a, .sl 1 [.a]]]], none⟩, ⟨.mv (.l 1), none⟩] [(5, 2)]) (.seq (.seq (.reg false [⟨.mv (.s 5), none⟩, ⟨.lenS (.l 0), none⟩, ⟨.bin .gtr (.l 1) (.c (.int .i64 8192)), none⟩] [(6, 2)]) (.cond (.s 6) (.seq (.reg false [⟨.mv (.c (.str [])), none⟩, ⟨.mv (.c (.int .i64 32)), none⟩] [(1, 0), (2, 1)]) .ret) .skip)) (.seq (.reg false [⟨.mv (.s 5), none⟩, ⟨.mv (.l 0), none⟩, ⟨.mv (.c (.int .i64 0)), none⟩] [(1, 1), (2, 2)]) .ret))))) }
theorem w571 {Γ : Ctx} (hm : (Γ.at 0).Mono) (h189 : C189 (Γ.at 0)) (h743 : C743 (Γ.at 0)) (l : Lck) (hp0 : l.sm) : wpA (Γ.at 0) ref33_Print.body (Res ref33_Print (.tup [.str (prS l), .int .i64 (prE l)]) : Ex → List Ent → St → Prop) (env0 ref33_Print [Lck.D l]) ⟨0, []⟩ := by
  show wpA _ _ _ [⟨true, Lck.D l⟩, .un, .un, .un, .un, .un, .un] ⟨0, []⟩
  refine wp_regseq ?_; refine r_box ?_; refine r_mv ?_; refine r_mv ?_; refine reg_end (env' := [_, ⟨_, (.str _)⟩, ⟨_, (.int _ _)⟩, ⟨_, _⟩, _, _, _]) ?_; refine wp_assoc ?_; refine wp_regseq ?_; refine r_ldB ?_
  refine r_call (hc := h189 _ ?_) ?_; rotate_left; first | assumption | omega
  refine r_not ?_; refine reg_end (env' := [_, _, _, _, ⟨_, (.bool _)⟩, _, _]) ?_
  refine wp_condseq (fun hc0 => ?_) (fun hc0 => ?_)
  · simp only [Bool.not_eq_true'] at hc0
    refine wp_assoc ?_; refine wp_regseq ?_; refine r_mv ?_; refine r_mv ?_; refine reg_end (env' := [_, ⟨_, (.str _)⟩, ⟨_, (.int _ _)⟩, _, _, _, _]) ?_; refine wp_retseq ?_
    refine res_of trivial q2 q3 (Eq.trans q7 (tup_eq2 (congrArg D.str ?_) (congrArg (D.int .i64) ?_)))
    all_goals simp [prS, prE, hc0]
  · simp only [Bool.not_eq_false'] at hc0
    refine wp_skipseq ?_; refine wp_regseq ?_; refine r_ldB ?_
    refine r_call (hc := h743 _ ?_) ?_; rotate_left; first | assumption | omega
    refine r_mv ?_; refine reg_end (env' := [_, _, _, _, _, ⟨_, (.str _)⟩, _]) ?_; refine wp_assoc ?_; refine wp_regseq ?_; refine r_mv ?_
    refine r_lenS fun hlR4_1 => ?_; replace hlR4_1 := hlR4_1 rfl rfl
    refine r_gtrI ?_; refine reg_end (env' := [_, _, _, _, _, _, ⟨_, (.bool _)⟩]) ?_
    refine wp_condseq (fun hc1 => ?_) (fun hc1 => ?_)
    · try simp only [b0, b1, b2, b3, b4, b5, b6, b7, b8, b9, b10, b11] at hc1
      refine wp_assoc ?_; refine wp_regseq ?_; refine r_mv ?_; refine r_mv ?_; refine reg_end (env' := [_, ⟨_, (.str _)⟩, ⟨_, (.int _ _)⟩, _, _, _, _]) ?_; refine wp_retseq ?_
      refine res_of trivial q2 q3 (Eq.trans q7 (tup_eq2 (congrArg D.str ?_) (congrArg (D.int .i64) ?_)))
      all_goals
        have h9 : ¬ (lckS l).length ≤ 8192 := by omega
        simp [prS, prE, hc0, h9]
    · try simp only [b0, b1, b2, b3, b4, b5, b6, b7, b8, b9, b10, b11] at hc1
      refine wp_skipseq ?_; refine wp_regseq ?_; refine r_mv ?_; refine r_mv ?_; refine r_mv ?_; refine reg_end (env' := [_, ⟨_, (.str _)⟩, ⟨_, (.int _ _)⟩, _, _, _, _]) ?_; refine wp_ret ?_
      refine res_of trivial q2 q3 (Eq.trans q7 (tup_eq2 (congrArg D.str ?_) (congrArg (D.int .i64) ?_)))
      all_goals
        have h9 : (lckS l).length ≤ 8192 := by omega
        simp [prS, prE, hc0, h9]
def C571 (Γ : Ctx) : Prop := ∀ (l : Lck), (l.sm) → Γ.pre 571 [Lck.D l] ∧ Γ.val 571 [Lck.D l] = .tup [.str (prS l), .int .i64 (prE l)]
/-- linchpin/lock.Print -/
def lock_Print : AFunc := { np := 1, ns := 16, res := [⟨1, none⟩, ⟨2, none⟩], rsh := [[.a], [.a]], body := (.seq (.reg false [⟨.box 4 (.s 0), none⟩, ⟨.mv (.c (.str [])), none⟩, ⟨.mv (.c (.int .i64 0)), none⟩] [(3, 0), (1, 1), (2, 2)]) (.seq (.seq (.reg false [⟨.ld 4 true (.s 3), none⟩, ⟨.call 315 [(.l 0)] [[.a, .a, .a, .sl 9 [.a, .a, .a, .a, .a, .a, .a, .a, .sl 1 [.a]]]], none⟩, ⟨.un .not (.l 1), none⟩] [(4, 2)]) (.cond (.s 4) (.seq (.reg false [⟨.mv (.c (.str [])), none⟩, ⟨.mv (.c (.int .i64 34)), none⟩] [(1, 0), (2, 1)]) .ret) .skip)) (.seq (.reg false [⟨.mv (.c (.str [108, 105, 110, 99, 104, 112, 105, 110, 32, 108, 111, 99, 107, 10, 112, 108, 97, 116, 102, 111, 114, 109])), none⟩] [(8, 0)]) (.seq (.seq (.reg false [⟨.fa 0 (.s 3), none⟩, ⟨.fa 0 (.l 0), none⟩, ⟨.ld 3 true (.l 1), none⟩, ⟨.mv (.c (.int .i64 0)), none⟩] [(7, 2), (5, 3)]) (.block 0 (.loop (.seq (.reg false [⟨.bin .lss (.s 5) (.c (.int .i64 3)), none⟩] [(6, 0)]) (.seq (.cond (.s 6) .skip (.exit 0)) (.seq (.block 1 (.seq (.reg false [⟨.ixA 3 1 false (.s 7) (.s 5), none⟩, ⟨.mv (.l 0), none⟩] [(9, 1)]) (.reg false [⟨.mv (.s 8), none⟩, ⟨.mv (.s 9), none⟩, ⟨.call 548 [(.l 1)] [[.a]], none⟩, ⟨.bin .add (.c (.str [32])) (.l 2), none⟩, ⟨.bin .add (.l 0) (.l 3), none⟩, ⟨.mv (.l 4), none⟩] [(8, 5)]))) (.reg false [⟨.bin .add (.s 5) (.c (.int .i64 1)), none⟩, ⟨.mv (.l 0), none⟩] [(5, 1)]))))))) (.seq (.reg false [⟨.mv (.s 8), none⟩, ⟨.bin .add (.l 0) (.c (.str [10])), none⟩, ⟨.mv (.l 1), none⟩] [(8, 2)]) (.seq (.seq (.reg false [⟨.fa 3 (.s 3), none⟩, ⟨.ld 1 false (.l 0), none⟩, ⟨.len (.l 1), none⟩, ⟨.mv (.c (.int .i64 0)), none⟩] [(13, 1), (11, 2), (10, 3)]) (.block 2 (.loop (.seq (.reg false [⟨.bin .lss (.s 10) (.s 11), none⟩] [(12, 0)]) (.seq (.cond (.s 12) .skip (.exit 2)) (.seq (.block 3 (.seq (.reg false [⟨.ia 9 (.s 13) (.s 10), none⟩, ⟨.ld 9 true (.l 0), none⟩, ⟨.box 9 (.c (.agg [.str [], .int .i64 0, .int .i64 0, .int .i64 0, .str [], .str [], .str [], .int .u64 0, .nils])), none⟩, ⟨.st 9 (.l 2) (.l 1), none⟩] [(14, 2)]) (.reg false [⟨.mv (.s 8), none⟩, ⟨.ld 9 true (.s 14), none⟩, ⟨.build [.str [], .int .i64 0, .int .i64 0, .int .i64 0, .str [], .str [], .str [], .int .u64 0, .nils] [(0, 9, (.l 1))], none⟩, ⟨.call 549 [(.l 2)] [[.a, .a, .a, .a, .a, .a, .a, .a, .sl 1 [.a]]], none⟩, ⟨.bin .add (.l 3) (.c (.str [10])), none⟩, ⟨.bin .add (.l 0) (.l 4), none⟩, ⟨.mv (.l 5), none⟩] [(8, 6)]))) (.reg false [⟨.bin .add (.s 10) (.c (.int .i64 1)), none⟩, ⟨.mv (.l 0), none⟩] [(10, 1)]))))))) (.seq (.reg false [⟨.mv (.s 8), none⟩, ⟨.mv (.s 8), none⟩, ⟨.s2b (.l 1), none⟩, ⟨.call 220 [(.l 2)] [[.sl 1 [.a]]], none⟩, ⟨.call 497 [(.l 3)] [[.a]], none⟩, ⟨.bin .add (.c (.str [115, 117, 109, 32])) (.l 4), none⟩, ⟨.bin .add (.l 5) (.c (.str [10])), none⟩, ⟨.bin .add (.l 0) (.l 6), none⟩, ⟨.mv (.l 7), none⟩] [(8, 8)]) (.seq (.seq (.reg false [⟨.mv (.s 8), none⟩, ⟨.lenS (.l 0), none⟩, ⟨.bin .gtr (.l 1) (.c (.int .i64 8192)), none⟩] [(15, 2)]) (.cond (.s 15) (.seq (.reg false [⟨.mv (.c (.str [])), none⟩, ⟨.mv (.c (.int .i64 32)), none⟩] [(1, 0), (2, 1)]) .ret) .skip)) (.seq (.reg false [⟨.mv (.s 8), none⟩, ⟨.mv (.l 0), none⟩, ⟨.mv (.c (.int .i64 0)), none⟩] [(1, 1), (2, 2)]) .ret))))))))) }
theorem w312 {Γ : Ctx} (hm : (Γ.at 0).Mono) (h220 : C220 (Γ.at 0)) (h315 : C315 (Γ.at 0)) (h497 : C497 (Γ.at 0)) (h548 : C548 (Γ.at 0)) (h549 : C549 (Γ.at 0)) (l : Lck) (hp0 : l.sm) : wpA (Γ.at 0) lock_Print.body (Res lock_Print (.tup [.str (prS l), .int .i64 (prE l)]) : Ex → List Ent → St → Prop) (env0 lock_Print [Lck.D l]) ⟨0, []⟩ := by
  show wpA _ _ _ [⟨true, Lck.D l⟩, .un, .un, .un, .un, .un, .un, .un, .un, .un, .un, .un, .un, .un, .un, .un] ⟨0, []⟩
  have hsz := hp0.1
  have hen := hp0.2.2
  have hh := headI_len l.env hen
  refine wp_regseq ?_; refine r_box ?_; refine r_mv ?_; refine r_mv ?_; refine reg_end (env' := [_, ⟨_, (.str _)⟩, ⟨_, (.int _ _)⟩, ⟨_, _⟩, _, _, _, _, _, _, _, _, _, _, _, _]) ?_; refine wp_assoc ?_; refine wp_regseq ?_; refine r_ldB ?_
  refine r_call (hc := h315 _ ?_) ?_; rotate_left; first | assumption | omega
  refine r_not ?_; refine reg_end (env' := [_, _, _, _, ⟨_, (.bool _)⟩, _, _, _, _, _, _, _, _, _, _, _]) ?_
  refine wp_condseq (fun hc0 => ?_) (fun hc0 => ?_)
  · simp only [Bool.not_eq_true'] at hc0
    refine wp_assoc ?_; refine wp_regseq ?_; refine r_mv ?_; refine r_mv ?_; refine reg_end (env' := [_, ⟨_, (.str _)⟩, ⟨_, (.int _ _)⟩, _, _, _, _, _, _, _, _, _, _, _, _, _]) ?_; refine wp_retseq ?_
    refine res_of trivial q2 q3 (Eq.trans q7 (tup_eq2 (congrArg D.str ?_) (congrArg (D.int .i64) ?_)))
    all_goals simp [prS, prE, hc0]
  · simp only [Bool.not_eq_false'] at hc0
    refine wp_skipseq ?_; refine wp_regseq ?_; refine r_mv ?_; refine reg_end (env' := [_, _, _, _, _, _, _, _, ⟨_, (.str _)⟩, _, _, _, _, _, _, _]) ?_; refine wp_assoc ?_; refine wp_regseq ?_; refine r_faP ?_; refine r_faP ?_; refine r_ldF (v := (Env.D _)) ?_; refine r_mv ?_; refine reg_end (env' := [_, _, _, _, _, ⟨_, (.int _ _)⟩, _, ⟨_, (Env.D _)⟩, _, _, _, _, _, _, _, _]) ?_
    refine wp_for hm (ι := Nat) (fun i => [.un, .un, .un, ⟨true, .ptr 0 4 0 0⟩, .un, ⟨true, .int .i64 (i : Nat)⟩, .un, ⟨true, Env.D l.env⟩, ⟨true, .str (headI l.env i)⟩, .un, .un, .un, .un, .un, .un, .un]) (fun i => [(0, .buf 4 [Lck.D l])]) 11 (fun i => i ≤ 3) (fun i => 3 - i) 0 (by omega) (Ghost.to [(0, 0)] q7 q7 q4 q1) ?_
    intro i hi
    have h1 := hh i
    refine wp_regseq ?_; refine r_lssI ?_; refine reg_end (env' := [_, _, _, _, _, _, ⟨_, (.bool _)⟩, _, _, _, _, _, _, _, _, _]) ?_
    refine wp_condseq (fun hc1 => ?_) (fun hc1 => ?_)
    · try simp only [b0, b1, b2, b3, b4, b5, b6, b7, b8, b9, b10, b11] at hc1
      refine wp_skipseq ?_
      refine wp_blockseq ?_ hm
      refine wp_regseq ?_
      refine r_ixA i (.str (l.env.at i)) (hv := fun _ => Env.cut l.env (by omega)) ?_
      refine r_mv ?_; refine reg_end (env' := [_, _, _, _, _, _, _, _, _, ⟨_, (.str _)⟩, _, _, _, _, _, _]) ?_; refine wp_reg ?_
      have h2 := dashS_len (l.env.at i)
      have h3 := hen i
      refine r_mv ?_; refine r_mv ?_; refine r_call (hc := h548 _) ?_
      refine r_addS (hb := fun _ => by simp only [List.length_append, List.length_cons, List.length_nil]; omega) ?_
      refine r_addS (hb := fun _ => by simp only [List.length_append, List.length_cons, List.length_nil]; omega) ?_
      refine r_mv ?_; refine reg_fin (env' := [_, _, _, _, _, _, _, _, ⟨_, (.str _)⟩, _, _, _, _, _, _, _]) ?_; refine BQ.normal ?_; refine wp_reg ?_; refine r_add64 ?_; refine r_mv ?_; refine reg_fin (env' := [_, _, _, _, _, ⟨_, (.int _ _)⟩, _, _, _, _, _, _, _, _, _, _]) ?_; refine LQ.normal ?_
      exact ⟨i + 1, (by omega), by omega, (Ghost.to [(0, 0)] q7 q7 (by repeat (first | exact RnE.nil | refine RnE.un ?_ | refine RnE.eq q7 ?_ | refine RnE.nl (congrArg D.str (by simp [headI])) q7 ?_)) q1)⟩
    · try simp only [b0, b1, b2, b3, b4, b5, b6, b7, b8, b9, b10, b11] at hc1
      refine wp_exitseq ?_; refine LQ.out ?_; refine wp_regseq ?_
      have h33 : i = 3 := by omega
      subst h33
      refine r_mv ?_
      refine r_addS (hb := fun _ => by simp only [List.length_append, List.length_cons, List.length_nil]; omega) ?_
      refine r_mv ?_; refine reg_end (env' := [_, _, _, _, _, _, _, _, ⟨_, (.str _)⟩, _, _, _, _, _, _, _]) ?_; refine wp_assoc ?_; refine wp_regseq ?_; refine r_faP ?_
      first | refine r_ldF (v := .sl _ _) ?_ | refine r_ldF (v := .own _ _ _ _) ?_ | refine r_ldF (v := .nils) ?_
      refine r_lenM fun hlR10_2 => ?_; replace hlR10_2 := hlR10_2 rfl rfl
      refine r_mv ?_; refine reg_end (env' := [_, _, _, _, _, _, _, _, _, _, ⟨_, (.int _ _)⟩, ⟨_, (.int _ _)⟩, _, ⟨_, (.sl _ _)⟩, _, _]) ?_
      refine wp_for hm (ι := Nat) (fun i => [.un, .un, .un, ⟨true, .ptr 0 4 0 0⟩, .un, .un, .un, .un, ⟨true, .str (headS l.env ++ linesS (l.lines.take i))⟩, .un, ⟨true, .int .i64 (i : Nat)⟩, ⟨true, .int .i64 (l.lines.length : Nat)⟩, .un, ⟨true, .sl 9 (l.lines.map Lkd.D)⟩, .un, .un]) (fun i => [(0, .buf 4 [Lck.D l])]) 19 (fun i => i ≤ l.lines.length) (fun i => l.lines.length - i) 0 (by omega) (Ghost.to [(0, 0)] q7 q7 (by repeat (first | exact RnE.nil | refine RnE.un ?_ | refine RnE.eq q7 ?_ | refine RnE.nl (congrArg D.str (by simp [linesS, headS])) q7 ?_)) q1) ?_
      intro i hi
      have l1 := linesS_len (l.lines.take i) (by simp; omega) (fun x hx => hp0.2.1 x (List.mem_of_mem_take hx))
      have h0 : (headS l.env).length ≤ 3145790 := by simp only [headS, List.length_append, List.length_cons, List.length_nil]; omega
      refine wp_regseq ?_; refine r_lssI ?_; refine reg_end (env' := [_, _, _, _, _, _, _, _, _, _, _, _, ⟨_, (.bool _)⟩, _, _, _]) ?_
      refine wp_condseq (fun hc2 => ?_) (fun hc2 => ?_)
      · try simp only [b0, b1, b2, b3, b4, b5, b6, b7, b8, b9, b10, b11] at hc2
        refine wp_skipseq ?_
        refine wp_blockseq ?_ hm
        refine wp_regseq ?_
        first | refine r_iaM _ ?_ | refine r_iaMT ?_
        first | refine r_ldR (v := (Lkd.D _)) ?_ | refine r_ldQ (v := (Lkd.D _)) ?_
        refine r_box ?_; refine r_stF _ ?_; refine reg_end (env' := [_, _, _, _, _, _, _, _, _, _, _, _, _, _, ⟨_, _⟩, _]) ?_; refine wp_reg ?_
        have hx := hp0.2.1 _ (mem_get (show i < l.lines.length by omega))
        have h5 := lkdS_len _ hx
        refine r_mv ?_; refine r_ldB ?_; refine r_buildD (Lkd.D l.lines[i]!) ?_; refine r_call (hc := h549 l.lines[i]! hx) ?_
        refine r_addS (hb := fun _ => by simp only [List.length_append, List.length_cons, List.length_nil]; omega) ?_
        refine r_addS (hb := fun _ => by simp only [List.length_append, List.length_cons, List.length_nil]; omega) ?_
        refine r_mv ?_; refine reg_fin (env' := [_, _, _, _, _, _, _, _, ⟨_, (.str _)⟩, _, _, _, _, _, _, _]) ?_; refine BQ.normal ?_; refine wp_reg ?_; refine r_add64 ?_; refine r_mv ?_; refine reg_fin (env' := [_, _, _, _, _, _, _, _, _, _, ⟨_, (.int _ _)⟩, _, _, _, _, _]) ?_; refine LQ.normal ?_
        have hq := linesS_take l.lines i (by omega)
        exact ⟨i + 1, (by omega), by omega, (Ghost.to [(0, 0)] q7 q7 (by repeat (first | exact RnE.nil | refine RnE.un ?_ | refine RnE.eq q7 ?_ | refine RnE.nl (congrArg D.str (by rw [hq]; simp [List.append_assoc])) q7 ?_)) q1)⟩
      · try simp only [b0, b1, b2, b3, b4, b5, b6, b7, b8, b9, b10, b11] at hc2
        refine wp_exitseq ?_; refine LQ.out ?_; refine wp_regseq ?_
        have ht : l.lines.take i = l.lines := List.take_of_length_le (by omega)
        rw [ht] at l1 ⊢
        have hbo : headS l.env ++ linesS l.lines = bodyS l := rfl
        rw [hbo]
        have l2 : (bodyS l).length ≤ 1153100000003145790 := by simp only [bodyS, List.length_append]; omega
        have l3 := textL_len (sumL (bodyS l))
        refine r_mv ?_; refine r_mv ?_; refine r_s2b ?_
        refine r_call (hc := h220 (bodyS l)) (ha := fun _ => congrArg (fun d => [d]) (xV_own1 (q := fun b : UInt8 => D.int .u8 b.toNat) (fun _ => rfl) q7)) (hp := fun _ => ⟨xVO_own1 (q := fun b : UInt8 => D.int .u8 b.toNat) (fun _ => rfl) q7, trivial⟩) ?_
        refine r_call (hc := h497 _) ?_
        refine r_addS (hb := fun _ => by simp only [List.length_append, List.length_cons, List.length_nil]; omega) ?_
        refine r_addS (hb := fun _ => by simp only [List.length_append, List.length_cons, List.length_nil]; omega) ?_
        refine r_addS (hb := fun _ => by simp only [List.length_append, List.length_cons, List.length_nil]; omega) ?_
        refine r_mv ?_; refine reg_end (env' := [_, _, _, _, _, _, _, _, ⟨_, (.str _)⟩, _, _, _, _, _, _, _]) ?_
        rw [show bodyS l ++ ([115, 117, 109, 32] ++ textL (sumL (bodyS l)) ++ [10]) = lckS l by simp [lckS]]
        refine wp_assoc ?_; refine wp_regseq ?_; refine r_mv ?_
        refine r_lenS fun hlR16_1 => ?_; replace hlR16_1 := hlR16_1 rfl rfl
        refine r_gtrI ?_; refine reg_end (env' := [_, _, _, _, _, _, _, _, _, _, _, _, _, _, _, ⟨_, (.bool _)⟩]) ?_
        refine wp_condseq (fun hc3 => ?_) (fun hc3 => ?_)
        · try simp only [b0, b1, b2, b3, b4, b5, b6, b7, b8, b9, b10, b11] at hc3
          refine wp_assoc ?_; refine wp_regseq ?_; refine r_mv ?_; refine r_mv ?_; refine reg_end (env' := [_, ⟨_, (.str _)⟩, ⟨_, (.int _ _)⟩, _, _, _, _, _, _, _, _, _, _, _, _, _]) ?_; refine wp_retseq ?_
          refine res_of trivial q2 q3 (Eq.trans q7 (tup_eq2 (congrArg D.str ?_) (congrArg (D.int .i64) ?_)))
          all_goals
            have h9 : ¬ (lckS l).length ≤ 8192 := by omega
            simp [prS, prE, hc0, h9]
        · try simp only [b0, b1, b2, b3, b4, b5, b6, b7, b8, b9, b10, b11] at hc3
          refine wp_skipseq ?_; refine wp_regseq ?_; refine r_mv ?_; refine r_mv ?_; refine r_mv ?_; refine reg_end (env' := [_, ⟨_, (.str _)⟩, ⟨_, (.int _ _)⟩, _, _, _, _, _, _, _, _, _, _, _, _, _]) ?_; refine wp_ret ?_
          refine res_of trivial q2 q3 (Eq.trans q7 (tup_eq2 (congrArg D.str ?_) (congrArg (D.int .i64) ?_)))
          all_goals
            have h9 : (lckS l).length ≤ 8192 := by omega
            simp [prS, prE, hc0, h9]
def C312 (Γ : Ctx) : Prop := ∀ (l : Lck), (l.sm) → Γ.pre 312 [Lck.D l] ∧ Γ.val 312 [Lck.D l] = .tup [.str (prS l), .int .i64 (prE l)]
end Go.Abs
end
