/- A part of the proofs of the statements of package linchpinlaw33: T13, T14, T15, T16, T17, T18. -/
import Derived.Test.YtbpdiikonpbgeaaGreatDoorP08
set_option linter.all false
section
namespace Go.Abs
open Go
/-- linchpin/linchpinmade.Place -/
def made_Place : AFunc := { np := 2, ns := 6, res := [⟨2, none⟩], rsh := [[.a]], body := (.seq (.reg false [⟨.mv (.c (.int .i64 0)), none⟩] [(2, 0)]) (.seq (.seq (.reg false [⟨.mv (.s 1), none⟩, ⟨.bin .lss (.l 0) (.c (.int .i64 1)), none⟩] [(3, 1)]) (.cond (.s 3) (.seq (.reg false [⟨.mv (.c (.int .i64 0)), none⟩] [(2, 0)]) .ret) .skip)) (.seq (.reg false [⟨.mv (.s 0), none⟩, ⟨.mv (.s 1), none⟩, ⟨.bin .rem (.l 0) (.l 1), none⟩, ⟨.mv (.l 2), none⟩] [(4, 3)]) (.seq (.seq (.reg false [⟨.mv (.s 4), none⟩, ⟨.bin .lss (.l 0) (.c (.int .i64 0)), none⟩] [(5, 1)]) (.cond (.s 5) (.seq (.reg false [⟨.mv (.s 4), none⟩, ⟨.mv (.s 1), none⟩, ⟨.bin .add (.l 0) (.l 1), none⟩, ⟨.mv (.l 2), none⟩] [(2, 3)]) .ret) .skip)) (.seq (.reg false [⟨.mv (.s 4), none⟩, ⟨.mv (.l 0), none⟩] [(2, 1)]) .ret))))) }
theorem w25 {Γ : Ctx} (hm : (Γ.at 0).Mono)  (v : Int) (n : Int) (hp0 : n ≤ 9223372036854775807) : wpA (Γ.at 0) made_Place.body (Res made_Place (.int .i64 (placeI v n)) : Ex → List Ent → St → Prop) (env0 made_Place [.int .i64 v, .int .i64 n]) ⟨0, []⟩ := by
  show wpA _ _ _ [⟨true, .int .i64 v⟩, ⟨true, .int .i64 n⟩, .un, .un, .un, .un] ⟨0, []⟩
  refine wp_regseq ?_; refine r_mv ?_; refine reg_end (env' := [_, _, ⟨_, (.int _ _)⟩, _, _, _]) ?_; refine wp_assoc ?_; refine wp_regseq ?_; refine r_mv ?_; refine r_lssI ?_; refine reg_end (env' := [_, _, _, ⟨_, (.bool _)⟩, _, _]) ?_
  refine wp_condseq (fun hc0 => ?_) (fun hc0 => ?_)
  · try simp only [b0, b1, b2, b3, b4, b5, b6, b7, b8, b9, b10, b11] at hc0
    refine wp_assoc ?_; refine wp_regseq ?_; refine r_mv ?_; refine reg_end (env' := [_, _, ⟨_, (.int _ _)⟩, _, _, _]) ?_; refine wp_retseq ?_
    refine res_of trivial q2 q3 (Eq.trans q7 (congrArg (D.int .i64) ?_))
    simp [placeI, hc0]
  · try simp only [b0, b1, b2, b3, b4, b5, b6, b7, b8, b9, b10, b11] at hc0
    refine wp_skipseq ?_; refine wp_regseq ?_; refine r_mv ?_; refine r_mv ?_
    refine r_rem (v.tmod n) (hn := by intro _; omega) (hb := fun _ => rfl) ?_; have ht := tmod_range v n (by omega)
    refine r_mv ?_; refine reg_end (env' := [_, _, _, _, ⟨_, (.int _ _)⟩, _]) ?_; refine wp_assoc ?_; refine wp_regseq ?_; refine r_mv ?_; refine r_lssI ?_; refine reg_end (env' := [_, _, _, _, _, ⟨_, (.bool _)⟩]) ?_
    refine wp_condseq (fun hc1 => ?_) (fun hc1 => ?_)
    · try simp only [b0, b1, b2, b3, b4, b5, b6, b7, b8, b9, b10, b11] at hc1
      refine wp_assoc ?_; refine wp_regseq ?_; refine r_mv ?_; refine r_mv ?_; refine r_add64 ?_; refine r_mv ?_; refine reg_end (env' := [_, _, ⟨_, (.int _ _)⟩, _, _, _]) ?_; refine wp_retseq ?_
      refine res_of trivial q2 q3 (Eq.trans q7 (congrArg (D.int .i64) ?_))
      simp only [placeI]; rw [if_neg hc0, if_pos hc1]
    · try simp only [b0, b1, b2, b3, b4, b5, b6, b7, b8, b9, b10, b11] at hc1
      refine wp_skipseq ?_; refine wp_regseq ?_; refine r_mv ?_; refine r_mv ?_; refine reg_end (env' := [_, _, ⟨_, (.int _ _)⟩, _, _, _]) ?_; refine wp_ret ?_
      refine res_of trivial q2 q3 (Eq.trans q7 (congrArg (D.int .i64) ?_))
      simp only [placeI]; rw [if_neg hc0, if_neg hc1]
def C25 (Γ : Ctx) : Prop := ∀ (v : Int) (n : Int), (n ≤ 9223372036854775807) → Γ.pre 25 [.int .i64 v, .int .i64 n] ∧ Γ.val 25 [.int .i64 v, .int .i64 n] = .int .i64 (placeI v n)
/-- linchpin/linchpinmade.At -/
def made_At : AFunc := { np := 2, ns := 4, res := [⟨2, none⟩], rsh := [[.a]], body := (.seq (.reg false [⟨.mv (.c (.int .i64 0)), none⟩] [(2, 0)]) (.seq (.seq (.reg false [⟨.mv (.s 1), none⟩, ⟨.bin .lss (.l 0) (.c (.int .i64 0)), none⟩, ⟨.mv (.l 1), none⟩, ⟨.mv (.s 1), some (2, false)⟩, ⟨.mv (.s 0), some (2, false)⟩, ⟨.len (.l 4), some (2, false)⟩, ⟨.bin .geq (.l 3) (.l 5), some (2, false)⟩, ⟨.pick (.l 2) (.c (.bool true)) (.l 6), none⟩] [(3, 7)]) (.cond (.s 3) (.seq (.reg false [⟨.mv (.s 1), none⟩, ⟨.bin .rem (.l 0) (.c (.int .i64 3)), none⟩, ⟨.mv (.l 1), none⟩] [(2, 2)]) .ret) .skip)) (.seq (.reg false [⟨.mv (.s 0), none⟩, ⟨.mv (.s 1), none⟩, ⟨.ia 1 (.l 0) (.l 1), none⟩, ⟨.ld 1 false (.l 2), none⟩, ⟨.mv (.l 3), none⟩] [(2, 4)]) .ret))) }
theorem w159 {Γ : Ctx} (hm : (Γ.at 0).Mono)  (l : List Int) (i : Int)  : wpA (Γ.at 0) made_At.body (Res made_At (.int .i64 (atI l i)) : Ex → List Ent → St → Prop) (env0 made_At [.sl 1 (l.map (D.int .i64)), .int .i64 i]) ⟨0, []⟩ := by
  show wpA _ _ _ [⟨true, .sl 1 (l.map (D.int .i64))⟩, ⟨true, .int .i64 i⟩, .un, .un] ⟨0, []⟩
  refine wp_regseq ?_; refine r_mv ?_; refine reg_end (env' := [_, _, ⟨_, (.int _ _)⟩, _]) ?_; refine wp_assoc ?_; refine wp_regseq ?_; refine r_mv ?_; refine r_lssI ?_; refine r_mv ?_; refine r_mv ?_; refine r_mv ?_
  refine r_lenM fun _ => ?_
  refine r_geqI ?_; refine r_or ?_; refine reg_end (env' := [_, _, _, ⟨_, (.bool _)⟩]) ?_
  refine wp_condseq (fun hc0 => ?_) (fun hc0 => ?_)
  · try simp only [b0, b1, b2, b3, b4, b5, b6, b7, b8, b9, b10, b11] at hc0
    refine wp_assoc ?_; refine wp_regseq ?_; refine r_mv ?_
    refine r_rem (i.tmod 3) (hn := by intro _; omega) (hb := fun _ => rfl) ?_
    refine r_mv ?_; refine reg_end (env' := [_, _, ⟨_, (.int _ _)⟩, _]) ?_; refine wp_retseq ?_
    refine res_of trivial q2 q3 (Eq.trans q7 (congrArg (D.int .i64) ?_))
    simp only [atI]; rw [if_pos hc0]
  · try simp only [b0, b1, b2, b3, b4, b5, b6, b7, b8, b9, b10, b11] at hc0
    refine wp_skipseq ?_; refine wp_regseq ?_; refine r_mv ?_; refine r_mv ?_; refine r_iaMT ?_
    first | refine r_ldR (v := (.int _ _)) ?_ | refine r_ldQ (v := (.int _ _)) ?_
    refine r_mv ?_; refine reg_end (env' := [_, _, ⟨_, (.int _ _)⟩, _]) ?_; refine wp_ret ?_
    refine res_of trivial q2 q3 (Eq.trans q7 (congrArg (D.int .i64) ?_))
    simp only [atI]; rw [if_neg (by omega)]
def C159 (Γ : Ctx) : Prop := ∀ (l : List Int) (i : Int), Γ.pre 159 [.sl 1 (l.map (D.int .i64)), .int .i64 i] ∧ Γ.val 159 [.sl 1 (l.map (D.int .i64)), .int .i64 i] = .int .i64 (atI l i)
/-- (*linchpin/linchpinmade.G).Next -/
def made_G_Next : AFunc := { np := 2, ns := 3, res := [⟨2, none⟩], rsh := [[.a]], body := (.seq (.reg false [⟨.mv (.c (.int .i64 0)), none⟩] [(2, 0)]) (.seq (.reg false [⟨.mv (.s 0), none⟩, ⟨.nilck (.l 0), none⟩, ⟨.fa 1 (.l 1), none⟩, ⟨.ld 1 false (.l 2), none⟩, ⟨.bin .add (.l 3) (.c (.int .i64 1)), none⟩, ⟨.nilck (.l 0), none⟩, ⟨.fa 1 (.l 5), none⟩, ⟨.st 1 (.l 6) (.l 4), none⟩] []) (.seq (.reg true [⟨.mv (.s 0), none⟩, ⟨.nilck (.l 0), none⟩, ⟨.fa 0 (.l 1), none⟩, ⟨.ld 1 false (.l 2), none⟩, ⟨.mv (.s 0), none⟩, ⟨.nilck (.l 4), none⟩, ⟨.fa 1 (.l 5), none⟩, ⟨.ld 1 false (.l 6), none⟩, ⟨.bin .sub (.l 7) (.c (.int .i64 1)), none⟩, ⟨.call 159 [(.l 3), (.l 8)] [[.sl 1 [.a]], [.a]], none⟩, ⟨.mv (.s 1), none⟩, ⟨.call 25 [(.l 9), (.l 10)] [[.a], [.a]], none⟩, ⟨.mv (.l 11), none⟩] [(2, 12)]) .ret))) }
theorem w109 {Γ : Ctx} (hm : (Γ.at 1).Mono) (h25 : C25 (Γ.at 1)) (h159 : C159 (Γ.at 1)) (g : Gs) (n : Int) (hp0 : n ≤ 9223372036854775807) (hp1 : 0 ≤ g.i ∧ g.i ≤ 1000000) : wpA (Γ.at 1) made_G_Next.body (ResF made_G_Next 2 (.int .i64 (g.val n)) (Gs.D g.nxt) : Ex → List Ent → St → Prop) (env0 made_G_Next (.ptr 0 2 0 0 :: [.int .i64 n])) ⟨1, [(0, .buf 2 [(Gs.D g)])]⟩ := by
  show wpA _ _ _ [⟨true, .ptr 0 2 0 0⟩, ⟨true, .int .i64 n⟩, .un] ⟨1, [(0, .buf 2 [(Gs.D g)])]⟩
  refine wp_regseq ?_; refine r_mv ?_; refine reg_end (env' := [_, _, ⟨_, (.int _ _)⟩]) ?_; refine wp_regseq ?_; refine r_mv ?_; refine r_nilP ?_; refine r_faP ?_; refine r_ldF (v := (.int _ _)) ?_; refine r_add64 ?_; refine r_nilP ?_; refine r_faP ?_; refine r_stF _ (he := by exact rfl) ?_; refine reg_end (env' := [_, _, _]) ?_; refine wp_regseq ?_; refine r_mv ?_; refine r_nilP ?_; refine r_faP ?_
  first | refine r_ldF (v := .sl _ _) ?_ | refine r_ldF (v := .own _ _ _ _) ?_ | refine r_ldF (v := .nils) ?_
  refine r_mv ?_; refine r_nilP ?_; refine r_faP ?_; refine r_ldF (v := (.int _ _)) ?_
  refine r_sub64 ?_; rw [show g.i + 1 - 1 = g.i by omega]
  refine r_call (hc := h159 _ _) ?_; refine r_mv ?_
  refine r_call (hc := h25 _ _ ?_) ?_; rotate_left; first | assumption | omega
  refine r_mv ?_; refine reg_end (env' := [_, _, ⟨_, (.int _ _)⟩]) ?_; refine wp_ret ?_
  refine resF_of trivial q3 (Eq.trans q7 (congrArg (D.int .i64) ?_)) q7 q7 q7
  rfl
def C109 (Γ : Ctx) : Prop := ∀ (g : Gs) (n : Int), (n ≤ 9223372036854775807) → (0 ≤ g.i ∧ g.i ≤ 1000000) → Γ.fp 109 (Gs.D g) [.int .i64 n] ∧ Γ.fv 109 (Gs.D g) [.int .i64 n] = .int .i64 (g.val n) ∧ Γ.fs 109 (Gs.D g) [.int .i64 n] = Gs.D g.nxt
/-- (*linchpin/lock.reader).next -/
def lock_reader_next : AFunc := { np := 1, ns := 6, res := [⟨1, none⟩, ⟨2, none⟩], rsh := [[.a], [.a]], body := (.seq (.reg false [⟨.mv (.c (.str [])), none⟩, ⟨.mv (.c (.bool false)), none⟩] [(1, 0), (2, 1)]) (.seq (.reg false [⟨.mv (.s 0), none⟩, ⟨.nilck (.l 0), none⟩, ⟨.fa 2 (.l 1), none⟩, ⟨.ld 1 false (.l 2), none⟩, ⟨.bin .add (.l 3) (.c (.int .i64 1)), none⟩, ⟨.nilck (.l 0), none⟩, ⟨.fa 2 (.l 5), none⟩, ⟨.st 1 (.l 6) (.l 4), none⟩] []) (.seq (.reg true [⟨.mv (.s 0), none⟩, ⟨.nilck (.l 0), none⟩, ⟨.fa 0 (.l 1), none⟩, ⟨.ld 1 false (.l 2), none⟩, ⟨.mv (.s 0), none⟩, ⟨.nilck (.l 4), none⟩, ⟨.fa 1 (.l 5), none⟩, ⟨.ld 1 false (.l 6), none⟩, ⟨.slS (.l 3) (some (.l 7)) none, none⟩, ⟨.call 487 [(.l 8), (.c (.str [10]))] [[.a], [.a]], none⟩, ⟨.mv (.l 9), none⟩, ⟨.ext (.l 10) 0, none⟩, ⟨.ext (.l 10) 1, none⟩, ⟨.ext (.l 10) 2, none⟩, ⟨.mv (.l 11), none⟩, ⟨.mv (.l 12), none⟩, ⟨.mv (.l 13), none⟩] [(5, 14), (3, 16)]) (.seq (.seq (.reg false [⟨.mv (.s 3), none⟩] [(4, 0)]) (.cond (.s 4) (.reg false [⟨.mv (.s 0), none⟩, ⟨.nilck (.l 0), none⟩, ⟨.fa 1 (.l 1), none⟩, ⟨.ld 1 false (.l 2), none⟩, ⟨.mv (.s 5), none⟩, ⟨.lenS (.l 4), none⟩, ⟨.bin .add (.l 5) (.c (.int .i64 1)), none⟩, ⟨.bin .add (.l 3) (.l 6), none⟩, ⟨.nilck (.l 0), none⟩, ⟨.fa 1 (.l 8), none⟩, ⟨.st 1 (.l 9) (.l 7), none⟩] []) .skip)) (.seq (.reg false [⟨.mv (.s 5), none⟩, ⟨.mv (.s 3), none⟩, ⟨.mv (.l 0), none⟩, ⟨.mv (.l 1), none⟩] [(1, 2), (2, 3)]) .ret))))) }
theorem w545 {Γ : Ctx} (hm : (Γ.at 1).Mono) (h487 : C487 (Γ.at 1)) (r : Rdr)  (hp0 : r.at' ≤ r.s.length) (hp1 : r.s.length ≤ 1048576) (hp2 : r.n ≤ 2097152) : wpA (Γ.at 1) lock_reader_next.body (ResF lock_reader_next 3 (.tup [.str r.ln.1, .bool r.ln.2.2]) (Rdr.D r.nxt) : Ex → List Ent → St → Prop) (env0 lock_reader_next (.ptr 0 3 0 0 :: [])) ⟨1, [(0, .buf 3 [(Rdr.D r)])]⟩ := by
  show wpA _ _ _ [⟨true, .ptr 0 3 0 0⟩, .un, .un, .un, .un, .un] ⟨1, [(0, .buf 3 [(Rdr.D r)])]⟩
  refine wp_regseq ?_; refine r_mv ?_; refine r_mv ?_; refine reg_end (env' := [_, ⟨_, (.str _)⟩, ⟨_, (.bool _)⟩, _, _, _]) ?_; refine wp_regseq ?_; refine r_mv ?_; refine r_nilP ?_; refine r_faP ?_; refine r_ldF (v := (.int _ _)) ?_; refine r_add64 ?_; refine r_nilP ?_; refine r_faP ?_; refine r_stF _ (he := by exact rfl) ?_; refine reg_end (env' := [_, _, _, _, _, _]) ?_; refine wp_regseq ?_; refine r_mv ?_; refine r_nilP ?_; refine r_faP ?_; refine r_ldF (v := (.str _)) ?_; refine r_mv ?_; refine r_nilP ?_; refine r_faP ?_; refine r_ldF (v := (.int _ _)) ?_; refine r_slS_lo _ ?_; refine r_call (hc := h487 (r.s.drop r.at') 10 (by simp; omega)) ?_
  refine r_mv ?_; refine r_ext (.str _) ?_; refine r_ext (.str _) ?_; refine r_ext (.bool _) ?_; refine r_mv ?_; refine r_mv ?_; refine r_mv ?_; refine reg_end (env' := [_, _, _, ⟨_, (.bool _)⟩, _, ⟨_, (.str _)⟩]) ?_; refine wp_assoc ?_; refine wp_regseq ?_; refine r_mv ?_; refine reg_end (env' := [_, _, _, _, ⟨_, (.bool _)⟩, _]) ?_
  refine wp_condseq (fun hc0 => ?_) (fun hc0 => ?_)
  · skip
    refine wp_regseq ?_
    have hcl := (cutL_len (r.s.drop r.at') 10).2 hc0
    simp only [List.length_drop] at hcl
    refine r_mv ?_; refine r_nilP ?_; refine r_faP ?_; refine r_ldF (v := (.int _ _)) ?_; refine r_mv ?_
    refine r_lenS fun hlR4_5 => ?_; replace hlR4_5 := hlR4_5 rfl rfl
    refine r_add64 ?_; refine r_add64 ?_; refine r_nilP ?_; refine r_faP ?_; refine r_stF _ (he := by exact rfl) ?_; refine reg_end (env' := [_, _, _, _, _, _]) ?_; refine wp_regseq ?_; refine r_mv ?_; refine r_mv ?_; refine r_mv ?_; refine r_mv ?_; refine reg_end (env' := [_, ⟨_, (.str _)⟩, ⟨_, (.bool _)⟩, _, _, _]) ?_; refine wp_ret ?_
    refine resF_of trivial q3 (Eq.trans q7 (tup_eq2 (congrArg D.str ?_) (congrArg D.bool ?_))) (by rw [show r.nxt = ⟨r.s, r.at' + (r.ln.1.length + 1), r.n + 1⟩ by simp [Rdr.nxt, Rdr.ln, hc0]]; exact rfl) q7 q7
    all_goals first | rfl | (rw [Rdr.ln, hc0])
  · skip
    refine wp_skipseq ?_; refine wp_regseq ?_; refine r_mv ?_; refine r_mv ?_; refine r_mv ?_; refine r_mv ?_; refine reg_end (env' := [_, ⟨_, (.str _)⟩, ⟨_, (.bool _)⟩, _, _, _]) ?_; refine wp_ret ?_
    refine resF_of trivial q3 (Eq.trans q7 (tup_eq2 (congrArg D.str ?_) (congrArg D.bool ?_))) (by rw [show r.nxt = ⟨r.s, r.at', r.n + 1⟩ by simp [Rdr.nxt, Rdr.ln, hc0]]; exact rfl) q7 q7
    all_goals first | rfl | (rw [Rdr.ln, hc0])
def C545 (Γ : Ctx) : Prop := ∀ (r : Rdr), (r.at' ≤ r.s.length) → (r.s.length ≤ 1048576) → (r.n ≤ 2097152) → Γ.fp 545 (Rdr.D r) [] ∧ Γ.fv 545 (Rdr.D r) [] = .tup [.str r.ln.1, .bool r.ln.2.2] ∧ Γ.fs 545 (Rdr.D r) [] = Rdr.D r.nxt
/-- linchpin/digest.Read -/
def digest_Read : AFunc := { np := 1, ns := 12, res := [⟨1, none⟩, ⟨2, none⟩], rsh := [[.a], [.a]], body := (.seq (.reg false [⟨.mv (.c (.int .u64 0)), none⟩, ⟨.mv (.c (.bool false)), none⟩] [(1, 0), (2, 1)]) (.seq (.seq (.reg false [⟨.mv (.s 0), none⟩, ⟨.lenS (.l 0), none⟩, ⟨.bin .neq (.l 1) (.c (.int .i64 16)), none⟩] [(3, 2)]) (.cond (.s 3) (.seq (.reg false [⟨.mv (.c (.int .u64 0)), none⟩, ⟨.mv (.c (.bool false)), none⟩] [(1, 0), (2, 1)]) .ret) .skip)) (.seq (.reg false [⟨.mv (.c (.int .u64 0)), none⟩] [(10, 0)]) (.seq (.seq (.reg false [⟨.mv (.s 0), none⟩, ⟨.lenS (.l 0), none⟩, ⟨.mv (.c (.int .i64 0)), none⟩] [(5, 1), (4, 2)]) (.block 0 (.loop (.seq (.reg false [⟨.bin .lss (.s 4) (.s 5), none⟩] [(6, 0)]) (.seq (.cond (.s 6) .skip (.exit 0)) (.seq (.block 1 (.seq (.reg false [⟨.mv (.s 4), none⟩, ⟨.mv (.l 0), none⟩] [(7, 1)]) (.seq (.reg false [⟨.mv (.s 0), none⟩, ⟨.mv (.s 7), none⟩, ⟨.ixS (.l 0) (.l 1), none⟩, ⟨.mv (.l 2), none⟩] [(8, 3)]) (.block 2 (.seq (.reg false [⟨.mv (.s 8), none⟩, ⟨.bin .geq (.l 0) (.c (.int .u8 48)), none⟩, ⟨.mv (.l 1), none⟩, ⟨.mv (.s 8), some (2, true)⟩, ⟨.bin .leq (.l 3) (.c (.int .u8 57)), some (2, true)⟩, ⟨.pick (.l 2) (.l 4) (.c (.bool false)), none⟩, ⟨.mv (.l 5), none⟩] [(9, 6)]) (.cond (.s 9) (.reg false [⟨.mv (.s 10), none⟩, ⟨.bin .shl (.l 0) (.c (.int .u64 4)), none⟩, ⟨.mv (.s 8), none⟩, ⟨.bin .sub (.l 2) (.c (.int .u8 48)), none⟩, ⟨.cvi .u64 (.l 3), none⟩, ⟨.bin .or (.l 1) (.l 4), none⟩, ⟨.mv (.l 5), none⟩] [(10, 6)]) (.seq (.reg false [⟨.mv (.s 8), none⟩, ⟨.bin .geq (.l 0) (.c (.int .u8 97)), none⟩, ⟨.mv (.l 1), none⟩, ⟨.mv (.s 8), some (2, true)⟩, ⟨.bin .leq (.l 3) (.c (.int .u8 102)), some (2, true)⟩, ⟨.pick (.l 2) (.l 4) (.c (.bool false)), none⟩, ⟨.mv (.l 5), none⟩] [(11, 6)]) (.cond (.s 11) (.reg false [⟨.mv (.s 10), none⟩, ⟨.bin .shl (.l 0) (.c (.int .u64 4)), none⟩, ⟨.mv (.s 8), none⟩, ⟨.bin .sub (.l 2) (.c (.int .u8 97)), none⟩, ⟨.bin .add (.l 3) (.c (.int .u8 10)), none⟩, ⟨.cvi .u64 (.l 4), none⟩, ⟨.bin .or (.l 1) (.l 5), none⟩, ⟨.mv (.l 6), none⟩] [(10, 7)]) (.seq (.reg false [⟨.mv (.c (.int .u64 0)), none⟩, ⟨.mv (.c (.bool false)), none⟩] [(1, 0), (2, 1)]) .ret))))))))) (.reg false [⟨.bin .add (.s 4) (.c (.int .i64 1)), none⟩, ⟨.mv (.l 0), none⟩] [(4, 1)]))))))) (.seq (.reg false [⟨.mv (.s 10), none⟩, ⟨.mv (.l 0), none⟩, ⟨.mv (.c (.bool true)), none⟩] [(1, 1), (2, 2)]) .ret))))) }
theorem w499 {Γ : Ctx} (hm : (Γ.at 0).Mono)  (s : Str)  : wpA (Γ.at 0) digest_Read.body (Res digest_Read (.tup [.int .u64 (readO s), .bool (readB s)]) : Ex → List Ent → St → Prop) (env0 digest_Read [.str s]) ⟨0, []⟩ := by
  show wpA _ _ _ [⟨true, .str s⟩, .un, .un, .un, .un, .un, .un, .un, .un, .un, .un, .un] ⟨0, []⟩
  refine wp_regseq ?_; refine r_mv ?_; refine r_mv ?_; refine reg_end (env' := [_, ⟨_, (.int _ _)⟩, ⟨_, (.bool _)⟩, _, _, _, _, _, _, _, _, _]) ?_; refine wp_assoc ?_; refine wp_regseq ?_; refine r_mv ?_
  refine r_lenS fun hlR1_1 => ?_; replace hlR1_1 := hlR1_1 rfl rfl
  refine r_neqI ?_; refine reg_end (env' := [_, _, _, ⟨_, (.bool _)⟩, _, _, _, _, _, _, _, _]) ?_
  refine wp_condseq (fun hc0 => ?_) (fun hc0 => ?_)
  · try simp only [b0, b1, b2, b3, b4, b5, b6, b7, b8, b9, b10, b11] at hc0
    refine wp_assoc ?_; refine wp_regseq ?_; refine r_mv ?_; refine r_mv ?_; refine reg_end (env' := [_, ⟨_, (.int _ _)⟩, ⟨_, (.bool _)⟩, _, _, _, _, _, _, _, _, _]) ?_; refine wp_retseq ?_
    refine res_of trivial q2 q3 (Eq.trans q7 (tup_eq2 (congrArg (D.int .u64) ?_) (congrArg D.bool ?_)))
    all_goals
      have : readB s = false := by simp only [readB]; rw [decide_eq_false (by omega : ¬ s.length = 16)]; rfl
      simp [readO, this]
  · try simp only [b0, b1, b2, b3, b4, b5, b6, b7, b8, b9, b10, b11] at hc0
    refine wp_skipseq ?_; refine wp_regseq ?_; refine r_mv ?_; refine reg_end (env' := [_, _, _, _, _, _, _, _, _, _, ⟨_, (.int _ _)⟩, _]) ?_; refine wp_assoc ?_; refine wp_regseq ?_; refine r_mv ?_
    refine r_lenS fun hlR4_1 => ?_; replace hlR4_1 := hlR4_1 rfl rfl
    refine r_mv ?_; refine reg_end (env' := [_, _, _, _, ⟨_, (.int _ _)⟩, ⟨_, (.int _ _)⟩, _, _, _, _, _, _]) ?_
    have h16 : s.length = 16 := by omega
    have hP : readB s = allF (fun i => hexB (at8 s i)) 0 s.length := by simp only [readB]; rw [decide_eq_true h16]; rfl
    refine wp_for hm (ι := Nat) (fun i => [⟨true, .str s⟩, .un, .un, .un, ⟨true, .int .i64 (i : Nat)⟩, ⟨true, .int .i64 (s.length : Nat)⟩, .un, .un, .un, .un, ⟨true, .int .u64 (readF (s.take i))⟩, .un]) (fun i => []) 9 (fun i => i ≤ s.length ∧ s.length = 16 ∧ readB s = allF (fun i => hexB (at8 s i)) i s.length) (fun i => s.length - i) 0 ⟨by omega, h16, hP⟩ (Ghost.to [] q7 q7 q4 q1) ?_
    rintro i ⟨hi, h16, hr⟩
    refine wp_regseq ?_; refine r_lssI ?_; refine reg_end (env' := [_, _, _, _, _, _, ⟨_, (.bool _)⟩, _, _, _, _, _]) ?_
    refine wp_condseq (fun hc1 => ?_) (fun hc1 => ?_)
    · try simp only [b0, b1, b2, b3, b4, b5, b6, b7, b8, b9, b10, b11] at hc1
      refine wp_skipseq ?_
      refine wp_blockseq ?_ hm
      refine wp_regseq ?_; refine r_mv ?_; refine r_mv ?_; refine reg_end (env' := [_, _, _, _, _, _, _, ⟨_, (.int _ _)⟩, _, _, _, _]) ?_; refine wp_regseq ?_; refine r_mv ?_; refine r_mv ?_
      first | refine r_ixS _ ?_ | refine r_ixST ?_
      refine r_mv ?_; refine reg_end (env' := [_, _, _, _, _, _, _, _, ⟨_, (.int _ _)⟩, _, _, _]) ?_
      refine wp_blockL ?_ hm
      refine wp_regseq ?_; refine r_mv ?_; refine r_geqI ?_; refine r_mv ?_; refine r_mv ?_; refine r_leqI ?_; refine r_and ?_; refine r_mv ?_; refine reg_end (env' := [_, _, _, _, _, _, _, _, _, ⟨_, (.bool _)⟩, _, _]) ?_
      refine wp_cond (fun hc2 => ?_) (fun hc2 => ?_)
      · try simp only [b0, b1, b2, b3, b4, b5, b6, b7, b8, b9, b10, b11] at hc2
        refine wp_reg ?_
        have h256 := at8_lt s i
        have hz : hexB (at8 s i) = true := by simp only [hexB, digitB, Bool.or_eq_true, Bool.and_eq_true, decide_eq_true_eq]; omega
        have hv : hexV (at8 s i) = at8 s i - 48 := by unfold hexV; rw [if_pos (by simp only [digitB, Bool.and_eq_true, decide_eq_true_eq]; omega)]
        refine r_mv ?_
        refine r_shl (shl64 (readF (s.take i)) 4) (hb := fun _ => by rw [show min (Int.toNat (4 : Int)) (IntKind.bits .u64) = 4 by simp [IntKind.bits]]; rfl) ?_
        refine r_mv ?_
        refine r_subK (at8 s i - 48) (hb := fun _ => IntWalk.u8_in _ (by omega)) ?_
        refine r_cvi (at8 s i - 48) (hb := fun _ => by rw [IntKind.wrap_u64]; omega) ?_
        refine r_bor (readF (s.take (i + 1))) (hb := fun _ => by rw [readF_succ s i (by omega)]; unfold readStep; rw [hv]; rfl) ?_
        refine r_mv ?_; refine reg_fin (env' := [_, _, _, _, _, _, _, _, _, _, ⟨_, (.int _ _)⟩, _]) ?_
        refine BQ0.normal ?_
        refine BQ.normal ?_; refine wp_reg ?_; refine r_add64 ?_; refine r_mv ?_; refine reg_fin (env' := [_, _, _, _, ⟨_, (.int _ _)⟩, _, _, _, _, _, _, _]) ?_; refine LQ.normal ?_
        exact ⟨i + 1, ⟨by omega, h16, by rw [hr, allF_lt (by omega), hz]; rfl⟩, by omega, (Ghost.to [] q7 q7 q4 q1)⟩
      · try simp only [b0, b1, b2, b3, b4, b5, b6, b7, b8, b9, b10, b11] at hc2
        refine wp_regseq ?_; refine r_mv ?_; refine r_geqI ?_; refine r_mv ?_; refine r_mv ?_; refine r_leqI ?_; refine r_and ?_; refine r_mv ?_; refine reg_end (env' := [_, _, _, _, _, _, _, _, _, _, _, ⟨_, (.bool _)⟩]) ?_
        refine wp_cond (fun hc3 => ?_) (fun hc3 => ?_)
        · try simp only [b0, b1, b2, b3, b4, b5, b6, b7, b8, b9, b10, b11] at hc3
          refine wp_reg ?_
          have h256 := at8_lt s i
          have hz : hexB (at8 s i) = true := by simp only [hexB, digitB, Bool.or_eq_true, Bool.and_eq_true, decide_eq_true_eq]; omega
          have hv : hexV (at8 s i) = at8 s i - 87 := by unfold hexV; rw [if_neg (by simp only [digitB, Bool.and_eq_true, decide_eq_true_eq]; omega)]
          refine r_mv ?_
          refine r_shl (shl64 (readF (s.take i)) 4) (hb := fun _ => by rw [show min (Int.toNat (4 : Int)) (IntKind.bits .u64) = 4 by simp [IntKind.bits]]; rfl) ?_
          refine r_mv ?_
          refine r_subK (at8 s i - 97) (hb := fun _ => IntWalk.u8_in _ (by omega)) ?_
          refine r_addK (at8 s i - 87) (hb := fun _ => by rw [show at8 s i - 97 + 10 = at8 s i - 87 by omega]; exact IntWalk.u8_in _ (by omega)) ?_
          refine r_cvi (at8 s i - 87) (hb := fun _ => by rw [IntKind.wrap_u64]; omega) ?_
          refine r_bor (readF (s.take (i + 1))) (hb := fun _ => by rw [readF_succ s i (by omega)]; unfold readStep; rw [hv]; rfl) ?_
          refine r_mv ?_; refine reg_fin (env' := [_, _, _, _, _, _, _, _, _, _, ⟨_, (.int _ _)⟩, _]) ?_
          refine BQ0.normal ?_
          refine BQ.normal ?_; refine wp_reg ?_; refine r_add64 ?_; refine r_mv ?_; refine reg_fin (env' := [_, _, _, _, ⟨_, (.int _ _)⟩, _, _, _, _, _, _, _]) ?_; refine LQ.normal ?_
          exact ⟨i + 1, ⟨by omega, h16, by rw [hr, allF_lt (by omega), hz]; rfl⟩, by omega, (Ghost.to [] q7 q7 q4 q1)⟩
        · try simp only [b0, b1, b2, b3, b4, b5, b6, b7, b8, b9, b10, b11] at hc3
          refine wp_regseq ?_; refine r_mv ?_; refine r_mv ?_; refine reg_end (env' := [_, ⟨_, (.int _ _)⟩, ⟨_, (.bool _)⟩, _, _, _, _, _, _, _, _, _]) ?_; refine wp_ret ?_
          refine BQ0.ret ?_
          refine BQ.ret ?_; refine LQ.ret ?_
          refine res_of trivial q2 q3 (Eq.trans q7 (tup_eq2 (congrArg (D.int .u64) ?_) (congrArg D.bool ?_)))
          all_goals
            have hz : hexB (at8 s i) = false := by simp only [hexB, digitB, Bool.or_eq_false_iff, Bool.and_eq_false_iff, decide_eq_false_iff_not]; omega
            have : readB s = false := by rw [hr, allF_lt (by omega), hz]; rfl
            simp [readO, this]
    · try simp only [b0, b1, b2, b3, b4, b5, b6, b7, b8, b9, b10, b11] at hc1
      refine wp_exitseq ?_; refine LQ.out ?_; refine wp_regseq ?_; refine r_mv ?_; refine r_mv ?_; refine r_mv ?_; refine reg_end (env' := [_, ⟨_, (.int _ _)⟩, ⟨_, (.bool _)⟩, _, _, _, _, _, _, _, _, _]) ?_; refine wp_ret ?_
      refine res_of trivial q2 q3 (Eq.trans q7 (tup_eq2 (congrArg (D.int .u64) ?_) (congrArg D.bool ?_)))
      all_goals
        have : readB s = true := by rw [hr, allF_ge (by omega)]
        have ht : s.take i = s := List.take_of_length_le (by omega)
        simp [readO, this, ht]
def C499 (Γ : Ctx) : Prop := ∀ (s : Str), Γ.pre 499 [.str s] ∧ Γ.val 499 [.str s] = .tup [.int .u64 (readO s), .bool (readB s)]
end Go.Abs
end
section
namespace Go.Abs
open Go
/-- linchpin/version.Parse -/
def version_Parse : AFunc := { np := 1, ns := 18, res := [⟨1, some (5, true)⟩, ⟨2, none⟩], rsh := [[.a, .a, .a, .a, .a], [.a]], body := (.seq (.reg false [⟨.box 5 (.c (.agg [.int .i64 0, .int .i64 0, .int .i64 0, .str [], .str []])), none⟩, ⟨.mv (.c (.int .i64 0)), none⟩] [(1, 0), (2, 1)]) (.seq (.reg false [⟨.box 5 (.c (.agg [.int .i64 0, .int .i64 0, .int .i64 0, .str [], .str []])), none⟩] [(4, 0)]) (.seq (.reg false [⟨.mv (.s 0), none⟩, ⟨.mv (.l 0), none⟩] [(3, 1)]) (.seq (.reg false [⟨.mv (.s 3), none⟩, ⟨.call 675 [(.l 0), (.c (.int .u8 43))] [[.a], [.a]], none⟩, ⟨.mv (.l 1), none⟩, ⟨.ext (.l 2) 0, none⟩, ⟨.ext (.l 2) 1, none⟩, ⟨.fa 4 (.s 4), none⟩, ⟨.st 1 (.l 5) (.l 3), none⟩, ⟨.mv (.l 4), none⟩] [(3, 7)]) (.seq (.reg false [⟨.mv (.s 3), none⟩, ⟨.call 675 [(.l 0), (.c (.int .u8 45))] [[.a], [.a]], none⟩, ⟨.mv (.l 1), none⟩, ⟨.ext (.l 2) 0, none⟩, ⟨.ext (.l 2) 1, none⟩, ⟨.fa 3 (.s 4), none⟩, ⟨.st 1 (.l 5) (.l 3), none⟩, ⟨.mv (.l 4), none⟩] [(3, 7)]) (.seq (.reg false [⟨.mv (.s 3), none⟩, ⟨.call 533 [(.l 0), (.c (.int .u8 46))] [[.a], [.a]], none⟩, ⟨.mv (.l 1), none⟩] [(5, 2)]) (.seq (.seq (.reg false [⟨.mv (.s 5), none⟩, ⟨.len (.l 0), none⟩, ⟨.bin .neq (.l 1) (.c (.int .i64 3)), none⟩] [(6, 2)]) (.cond (.s 6) (.seq (.reg false [⟨.build [.int .i64 0, .int .i64 0, .int .i64 0, .str [], .str []] [], none⟩, ⟨.st 5 (.s 1) (.l 0), none⟩, ⟨.mv (.c (.int .i64 5)), none⟩] [(2, 2)]) .ret) .skip)) (.seq (.reg false [⟨.box 3 (.c (.agg [.int .i64 0, .int .i64 0, .int .i64 0])), none⟩] [(16, 0)]) (.seq (.seq (.reg false [⟨.mv (.s 5), none⟩, ⟨.len (.l 0), none⟩, ⟨.mv (.c (.int .i64 0)), none⟩] [(10, 0), (8, 1), (7, 2)]) (.block 0 (.loop (.seq (.reg false [⟨.bin .lss (.s 7) (.s 8), none⟩] [(9, 0)]) (.seq (.cond (.s 9) .skip (.exit 0)) (.seq (.block 1 (.seq (.reg false [⟨.mv (.s 7), none⟩, ⟨.ia 1 (.s 10) (.s 7), none⟩, ⟨.ld 1 false (.l 1), none⟩, ⟨.mv (.l 0), none⟩, ⟨.mv (.l 2), none⟩] [(14, 3), (11, 4)]) (.seq (.reg false [⟨.mv (.s 11), none⟩, ⟨.call 658 [(.l 0)] [[.a]], none⟩, ⟨.mv (.l 1), none⟩, ⟨.ext (.l 2) 0, none⟩, ⟨.ext (.l 2) 1, none⟩, ⟨.mv (.l 3), none⟩, ⟨.mv (.l 4), none⟩] [(15, 5), (12, 6)]) (.seq (.seq (.reg false [⟨.mv (.s 12), none⟩, ⟨.un .not (.l 0), none⟩] [(13, 1)]) (.cond (.s 13) (.seq (.reg false [⟨.build [.int .i64 0, .int .i64 0, .int .i64 0, .str [], .str []] [], none⟩, ⟨.st 5 (.s 1) (.l 0), none⟩, ⟨.mv (.c (.int .i64 5)), none⟩] [(2, 2)]) .ret) .skip)) (.reg false [⟨.mv (.s 14), none⟩, ⟨.mv (.s 15), none⟩, ⟨.iaP 3 1 (.s 16) (.l 0), none⟩, ⟨.st 1 (.l 2) (.l 1), none⟩] []))))) (.reg false [⟨.bin .add (.s 7) (.c (.int .i64 1)), none⟩, ⟨.mv (.l 0), none⟩] [(7, 1)]))))))) (.seq (.reg true [⟨.iaP 3 1 (.s 16) (.c (.int .i64 0)), none⟩, ⟨.ld 1 false (.l 0), none⟩, ⟨.iaP 3 1 (.s 16) (.c (.int .i64 1)), none⟩, ⟨.ldI 1 false (.l 2), none⟩, ⟨.iaP 3 1 (.s 16) (.c (.int .i64 2)), none⟩, ⟨.ldI 1 false (.l 4), none⟩, ⟨.fa 0 (.s 4), none⟩, ⟨.st 1 (.l 6) (.l 1), none⟩, ⟨.fa 1 (.s 4), none⟩, ⟨.st 1 (.l 8) (.l 3), none⟩, ⟨.fa 2 (.s 4), none⟩, ⟨.st 1 (.l 10) (.l 5), none⟩] []) (.seq (.seq (.reg false [⟨.ld 5 true (.s 4), none⟩, ⟨.call 209 [(.l 0)] [[.a, .a, .a, .a, .a]], none⟩, ⟨.un .not (.l 1), none⟩, ⟨.mv (.l 2), none⟩, ⟨.ld 5 true (.s 4), some (3, false)⟩, ⟨.call 451 [(.l 4)] [[.a, .a, .a, .a, .a]], some (3, false)⟩, ⟨.mv (.s 0), some (3, false)⟩, ⟨.bin .neq (.l 5) (.l 6), some (3, false)⟩, ⟨.pick (.l 3) (.c (.bool true)) (.l 7), none⟩] [(17, 8)]) (.cond (.s 17) (.seq (.reg false [⟨.build [.int .i64 0, .int .i64 0, .int .i64 0, .str [], .str []] [], none⟩, ⟨.st 5 (.s 1) (.l 0), none⟩, ⟨.mv (.c (.int .i64 5)), none⟩] [(2, 2)]) .ret) .skip)) (.seq (.reg false [⟨.ld 5 true (.s 4), none⟩, ⟨.st 5 (.s 1) (.l 0), none⟩, ⟨.mv (.c (.int .i64 0)), none⟩] [(2, 2)]) .ret)))))))))))) }
theorem w466 {Γ : Ctx} (hm : (Γ.at 0).Mono) (h209 : C209 (Γ.at 0)) (h451 : C451 (Γ.at 0)) (h533 : C533 (Γ.at 0)) (h658 : C658 (Γ.at 0)) (h675 : C675 (Γ.at 0)) (s : Str) (hp0 : s.length ≤ 1048576) : wpA (Γ.at 0) version_Parse.body (Res version_Parse (.tup [Ver.D ((verQ s).getD verZ), .int .i64 (verE s)]) : Ex → List Ent → St → Prop) (env0 version_Parse [.str s]) ⟨0, []⟩ := by
  show wpA _ _ _ [⟨true, .str s⟩, .un, .un, .un, .un, .un, .un, .un, .un, .un, .un, .un, .un, .un, .un, .un, .un, .un] ⟨0, []⟩
  have hb1 := behindL_len s 43
  have hb2 := behindL_len (behindL s 43).2 45
  generalize hA : behindL s 43 = A at hb1 hb2
  generalize hB : behindL A.2 45 = B at hb2
  have hsl := splitL_len B.2 46
  generalize hL : splitL B.2 46 = L at hsl
  have hq0 : verQ s = if L.length = 3 ∧ numB L[0]! = true ∧ numB L[1]! = true ∧ numB L[2]! = true then (if verB ⟨numO L[0]!, numO L[1]!, numO L[2]!, B.1, A.1⟩ = true ∧ verP ⟨numO L[0]!, numO L[1]!, numO L[2]!, B.1, A.1⟩ = s then some ⟨numO L[0]!, numO L[1]!, numO L[2]!, B.1, A.1⟩ else none) else none := by subst hA; subst hB; subst hL; rfl
  refine wp_regseq ?_; refine r_box ?_; refine r_mv ?_; refine reg_end (env' := [_, ⟨_, _⟩, ⟨_, (.int _ _)⟩, _, _, _, _, _, _, _, _, _, _, _, _, _, _, _]) ?_; refine wp_regseq ?_; refine r_box ?_; refine reg_end (env' := [_, _, _, _, ⟨_, _⟩, _, _, _, _, _, _, _, _, _, _, _, _, _]) ?_; refine wp_regseq ?_; refine r_mv ?_; refine r_mv ?_; refine reg_end (env' := [_, _, _, ⟨_, (.str _)⟩, _, _, _, _, _, _, _, _, _, _, _, _, _, _]) ?_; refine wp_regseq ?_; refine r_mv ?_
  refine r_call (hc := h675 s 43) ?_; rw [hA]
  refine r_mv ?_; refine r_ext (.str _) ?_; refine r_ext (.str _) ?_; refine r_faP ?_; refine r_stF (Ver.D ⟨0, 0, 0, [], A.1⟩) (he := by exact rfl) ?_; refine r_mv ?_; refine reg_end (env' := [_, _, _, ⟨_, (.str _)⟩, _, _, _, _, _, _, _, _, _, _, _, _, _, _]) ?_; refine wp_regseq ?_; refine r_mv ?_
  refine r_call (hc := h675 A.2 45) ?_; rw [hB]
  refine r_mv ?_; refine r_ext (.str _) ?_; refine r_ext (.str _) ?_; refine r_faP ?_; refine r_stF (Ver.D ⟨0, 0, 0, B.1, A.1⟩) (he := by exact rfl) ?_; refine r_mv ?_; refine reg_end (env' := [_, _, _, ⟨_, (.str _)⟩, _, _, _, _, _, _, _, _, _, _, _, _, _, _]) ?_; refine wp_regseq ?_; refine r_mv ?_
  refine r_call (hc := h533 B.2 46 (by omega)) ?_; rw [hL]
  refine r_mv ?_; refine reg_end (env' := [_, _, _, _, _, ⟨_, (.sl _ _)⟩, _, _, _, _, _, _, _, _, _, _, _, _]) ?_; refine wp_assoc ?_; refine wp_regseq ?_; refine r_mv ?_
  refine r_lenM fun hlR6_1 => ?_; replace hlR6_1 := hlR6_1 rfl rfl
  refine r_neqI ?_; refine reg_end (env' := [_, _, _, _, _, _, ⟨_, (.bool _)⟩, _, _, _, _, _, _, _, _, _, _, _]) ?_
  refine wp_condseq (fun hc0 => ?_) (fun hc0 => ?_)
  · try simp only [b0, b1, b2, b3, b4, b5, b6, b7, b8, b9, b10, b11] at hc0
    refine wp_assoc ?_; refine wp_regseq ?_; refine r_buildD (Ver.D verZ) ?_; refine r_stF _ ?_; refine r_mv ?_; refine reg_end (env' := [_, _, ⟨_, (.int _ _)⟩, _, _, _, _, _, _, _, _, _, _, _, _, _, _, _]) ?_; refine wp_retseq ?_
    refine res_of trivial q2 q3 (Eq.trans q7 (tup_eq2 ?_ (congrArg (D.int .i64) ?_)))
    all_goals
      have hq : verQ s = none := by rw [hq0, if_neg (fun h => by have := h.1; omega)]
      simp only [verE, hq]
      rfl
  · try simp only [b0, b1, b2, b3, b4, b5, b6, b7, b8, b9, b10, b11] at hc0
    refine wp_skipseq ?_; refine wp_regseq ?_; refine r_box ?_; refine reg_end (env' := [_, _, _, _, _, _, _, _, _, _, _, _, _, _, _, _, ⟨_, _⟩, _]) ?_; refine wp_assoc ?_; refine wp_regseq ?_; refine r_mv ?_
    refine r_lenM fun hlR9_1 => ?_; replace hlR9_1 := hlR9_1 rfl rfl
    refine r_mv ?_; refine reg_end (env' := [_, _, _, _, _, _, _, ⟨_, (.int _ _)⟩, ⟨_, (.int _ _)⟩, _, ⟨_, (.sl _ _)⟩, _, _, _, _, _, _, _]) ?_
    refine wp_for hm (ι := Nat) (fun i => [⟨true, .str s⟩, ⟨true, .ptr 0 5 0 0⟩, .un, .un, ⟨true, .ptr 2 5 0 0⟩, .un, .un, ⟨true, .int .i64 (i : Nat)⟩, ⟨true, .int .i64 (L.length : Nat)⟩, .un, ⟨true, .sl 1 (L.map D.str)⟩, .un, .un, .un, .un, .un, ⟨true, .ptr 27 3 0 0⟩, .un]) (fun i => [(0, .buf 5 [Ver.D verZ]), (2, .buf 5 [Ver.D ⟨0, 0, 0, B.1, A.1⟩]), (27, .buf 3 [nArr L i])]) 31 (fun i => i ≤ 3 ∧ ∀ j, j < i → numB L[j]! = true) (fun i => 3 - i) 0 ⟨by omega, fun j hj => by omega⟩ (Ghost.to [(0, 0), (2, 2), (27, 27)] q7 q7 q4 q1) ?_
    rintro i ⟨hi, hr⟩
    refine wp_regseq ?_; refine r_lssI ?_; refine reg_end (env' := [_, _, _, _, _, _, _, _, _, ⟨_, (.bool _)⟩, _, _, _, _, _, _, _, _]) ?_
    refine wp_condseq (fun hc1 => ?_) (fun hc1 => ?_)
    · try simp only [b0, b1, b2, b3, b4, b5, b6, b7, b8, b9, b10, b11] at hc1
      refine wp_skipseq ?_
      refine wp_blockseq ?_ hm
      refine wp_regseq ?_; refine r_mv ?_
      first | refine r_iaM _ ?_ | refine r_iaMT ?_
      first | refine r_ldR (v := (.str _)) ?_ | refine r_ldQ (v := (.str _)) ?_
      refine r_mv ?_; refine r_mv ?_; refine reg_end (env' := [_, _, _, _, _, _, _, _, _, _, _, ⟨_, (.str _)⟩, _, _, ⟨_, (.int _ _)⟩, _, _, _]) ?_; refine wp_regseq ?_; refine r_mv ?_; refine r_call (hc := h658 L[i]!) ?_; refine r_mv ?_; refine r_ext (.int _ _) ?_; refine r_ext (.bool _) ?_; refine r_mv ?_; refine r_mv ?_; refine reg_end (env' := [_, _, _, _, _, _, _, _, _, _, _, _, ⟨_, (.bool _)⟩, _, _, ⟨_, (.int _ _)⟩, _, _]) ?_; refine wp_assoc ?_; refine wp_regseq ?_; refine r_mv ?_; refine r_not ?_; refine reg_end (env' := [_, _, _, _, _, _, _, _, _, _, _, _, _, ⟨_, (.bool _)⟩, _, _, _, _]) ?_
      refine wp_condseq (fun hc2 => ?_) (fun hc2 => ?_)
      · simp only [Bool.not_eq_true'] at hc2
        refine wp_assoc ?_; refine wp_regseq ?_; refine r_buildD (Ver.D verZ) ?_; refine r_stF _ ?_; refine r_mv ?_; refine reg_end (env' := [_, _, ⟨_, (.int _ _)⟩, _, _, _, _, _, _, _, _, _, _, _, _, _, _, _]) ?_; refine wp_retseq ?_; refine BQ.ret ?_; refine LQ.ret ?_
        refine res_of trivial q2 q3 (Eq.trans q7 (tup_eq2 ?_ (congrArg (D.int .i64) ?_)))
        all_goals
          have hq : verQ s = none := by
            rw [hq0, if_neg]
            rintro ⟨_, h1, h2, h3⟩
            rcases (show i = 0 ∨ i = 1 ∨ i = 2 by omega) with rfl | rfl | rfl
            · rw [h1] at hc2; cases hc2
            · rw [h2] at hc2; cases hc2
            · rw [h3] at hc2; cases hc2
          simp only [verE, hq]
          rfl
      · simp only [Bool.not_eq_false'] at hc2
        refine wp_skipseq ?_; refine wp_reg ?_; refine r_mv ?_; refine r_mv ?_; refine r_iaPP i ?_; refine r_stF (nArr L (i + 1)) (he := nArr_set L i (by omega)) ?_; refine reg_fin (env' := [_, _, _, _, _, _, _, _, _, _, _, _, _, _, _, _, _, _]) ?_; refine BQ.normal ?_; refine wp_reg ?_; refine r_add64 ?_; refine r_mv ?_; refine reg_fin (env' := [_, _, _, _, _, _, _, ⟨_, (.int _ _)⟩, _, _, _, _, _, _, _, _, _, _]) ?_; refine LQ.normal ?_
        have hr2 : ∀ j, j < i + 1 → numB L[j]! = true := by
          intro j hj
          rcases Nat.eq_or_lt_of_le (Nat.lt_succ_iff.1 hj) with rfl | h
          · exact hc2
          · exact hr j h
        exact ⟨i + 1, ⟨by omega, hr2⟩, by omega, (Ghost.to [(0, 0), (2, 2), (27, 27)] q7 q7 q4 q1)⟩
    · try simp only [b0, b1, b2, b3, b4, b5, b6, b7, b8, b9, b10, b11] at hc1
      refine wp_exitseq ?_; refine LQ.out ?_; refine wp_fz 27 ?_; refine wp_regseq ?_
      have h3 : i = 3 := by omega
      subst h3
      refine r_iaPR 0 ?_; refine r_ldQ (v := .int .i64 (numO L[0]!)) ?_; refine r_iaPR 1 ?_; refine r_ldIQ (v := .int .i64 (numO L[1]!)) ?_; refine r_iaPR 2 ?_; refine r_ldIQ (v := .int .i64 (numO L[2]!)) ?_; refine r_faP ?_; refine r_stF (Ver.D ⟨numO L[0]!, 0, 0, B.1, A.1⟩) (he := by exact rfl) ?_; refine r_faP ?_; refine r_stF (Ver.D ⟨numO L[0]!, numO L[1]!, 0, B.1, A.1⟩) (he := by exact rfl) ?_; refine r_faP ?_; refine r_stF (Ver.D ⟨numO L[0]!, numO L[1]!, numO L[2]!, B.1, A.1⟩) (he := by exact rfl) ?_; refine reg_end (env' := [_, _, _, _, _, _, _, _, _, _, _, _, _, _, _, _, _, _]) ?_; refine wp_assoc ?_
      refine wp_regseq ?_
      have hsm : Ver.sm ⟨numO L[0]!, numO L[1]!, numO L[2]!, B.1, A.1⟩ := ⟨by simp only; omega, by simp only; omega⟩
      generalize hV : (⟨numO L[0]!, numO L[1]!, numO L[2]!, B.1, A.1⟩ : Ver) = V at hsm hq0 ⊢
      refine r_ldB ?_; refine r_call (hc := h209 V hsm) ?_; refine r_not ?_; refine r_mv ?_; refine r_ldB ?_
      refine r_callG (hc := fun _ => h451 V hsm) ?_
      refine r_mv ?_; refine r_neqS ?_; refine r_or ?_; refine reg_end (env' := [_, _, _, _, _, _, _, _, _, _, _, _, _, _, _, _, _, ⟨_, (.bool _)⟩]) ?_
      refine wp_condseq (fun hc3 => ?_) (fun hc3 => ?_)
      · simp only [Bool.or_eq_true, Bool.not_eq_true', decide_eq_false_iff_not] at hc3
        refine wp_assoc ?_; refine wp_regseq ?_; refine r_buildD (Ver.D verZ) ?_; refine r_stF _ ?_; refine r_mv ?_; refine reg_end (env' := [_, _, ⟨_, (.int _ _)⟩, _, _, _, _, _, _, _, _, _, _, _, _, _, _, _]) ?_; refine wp_retseq ?_
        refine res_of trivial q2 q3 (Eq.trans q7 (tup_eq2 ?_ (congrArg (D.int .i64) ?_)))
        all_goals
          have hq : verQ s = none := by
            rw [hq0]
            split
            · rw [if_neg]; rintro ⟨h1, h2⟩
              rcases hc3 with h | h
              · rw [h1] at h; cases h
              · exact h h2
            · rfl
          simp only [verE, hq]
          rfl
      · simp only [Bool.or_eq_false_iff, Bool.not_eq_false', decide_eq_true_eq] at hc3
        refine wp_skipseq ?_; refine wp_regseq ?_; refine r_ldB ?_; refine r_stF _ ?_; refine r_mv ?_; refine reg_end (env' := [_, _, ⟨_, (.int _ _)⟩, _, _, _, _, _, _, _, _, _, _, _, _, _, _, _]) ?_; refine wp_ret ?_
        refine res_of trivial q2 q3 (Eq.trans q7 (tup_eq2 ?_ (congrArg (D.int .i64) ?_)))
        all_goals
          have hq : verQ s = some V := by
            rw [hq0, if_pos ⟨by omega, hr 0 (by omega), hr 1 (by omega), hr 2 (by omega)⟩, if_pos hc3]
          simp only [verE, hq]
          rfl
def C466 (Γ : Ctx) : Prop := ∀ (s : Str), (s.length ≤ 1048576) → Γ.pre 466 [.str s] ∧ Γ.val 466 [.str s] = .tup [Ver.D ((verQ s).getD verZ), .int .i64 (verE s)]
/-- linchpin/lock.platform -/
def lock_platform : AFunc := { np := 1, ns := 13, res := [⟨1, some (3, true)⟩, ⟨2, none⟩], rsh := [[.a, .a, .a], [.a]], body := (.seq (.reg false [⟨.box 3 (.c (.agg [.str [], .str [], .str []])), none⟩, ⟨.mv (.c (.bool false)), none⟩] [(1, 0), (2, 1)]) (.seq (.reg false [⟨.box 3 (.c (.agg [.str [], .str [], .str []])), none⟩] [(12, 0)]) (.seq (.reg false [⟨.mv (.s 0), none⟩, ⟨.call 124 [(.l 0), (.c (.str [32]))] [[.a], [.a]], none⟩, ⟨.mv (.l 1), none⟩] [(3, 2)]) (.seq (.seq (.reg false [⟨.mv (.s 3), none⟩, ⟨.len (.l 0), none⟩, ⟨.bin .neq (.l 1) (.c (.int .i64 4)), none⟩, ⟨.mv (.l 2), none⟩, ⟨.mv (.s 3), some (3, false)⟩, ⟨.ia 1 (.l 4) (.c (.int .i64 0)), some (3, false)⟩, ⟨.ld 1 false (.l 5), some (3, false)⟩, ⟨.bin .neq (.l 6) (.c (.str [112, 108, 97, 116, 102, 111, 114, 109])), some (3, false)⟩, ⟨.pick (.l 3) (.c (.bool true)) (.l 7), none⟩] [(4, 8)]) (.cond (.s 4) (.seq (.reg false [⟨.build [.str [], .str [], .str []] [], none⟩, ⟨.st 3 (.s 1) (.l 0), none⟩, ⟨.mv (.c (.bool false)), none⟩] [(2, 2)]) .ret) .skip)) (.seq (.seq (.reg false [⟨.mv (.s 3), none⟩, ⟨.slA 1 (.l 0) (some (.c (.int .i64 1))) none, none⟩, ⟨.len (.l 1), none⟩, ⟨.mv (.c (.int .i64 0)), none⟩] [(8, 1), (6, 2), (5, 3)]) (.block 0 (.loop (.seq (.reg false [⟨.bin .lss (.s 5) (.s 6), none⟩] [(7, 0)]) (.seq (.cond (.s 7) .skip (.exit 0)) (.seq (.block 1 (.seq (.reg false [⟨.mv (.s 5), none⟩, ⟨.ia 1 (.s 8) (.s 5), none⟩, ⟨.ld 1 false (.l 1), none⟩, ⟨.mv (.l 0), none⟩, ⟨.mv (.l 2), none⟩] [(11, 3), (9, 4)]) (.seq (.seq (.reg false [⟨.mv (.s 9), none⟩, ⟨.bin .eql (.l 0) (.c (.str [])), none⟩] [(10, 1)]) (.cond (.s 10) (.seq (.reg false [⟨.build [.str [], .str [], .str []] [], none⟩, ⟨.st 3 (.s 1) (.l 0), none⟩, ⟨.mv (.c (.bool false)), none⟩] [(2, 2)]) .ret) .skip)) (.reg false [⟨.mv (.s 11), none⟩, ⟨.mv (.s 9), none⟩, ⟨.call 733 [(.l 1)] [[.a]], none⟩, ⟨.fa 0 (.s 12), none⟩, ⟨.iaP 3 1 (.l 3) (.l 0), none⟩, ⟨.st 1 (.l 4) (.l 2), none⟩] [])))) (.reg false [⟨.bin .add (.s 5) (.c (.int .i64 1)), none⟩, ⟨.mv (.l 0), none⟩] [(5, 1)]))))))) (.seq (.reg true [⟨.ld 3 true (.s 12), none⟩, ⟨.ld 3 true (.s 12), none⟩, ⟨.call 138 [(.l 1)] [[.a, .a, .a]], none⟩, ⟨.st 3 (.s 1) (.l 0), none⟩, ⟨.mv (.l 2), none⟩] [(2, 4)]) .ret)))))) }
theorem w546 {Γ : Ctx} (hm : (Γ.at 0).Mono) (h124 : C124 (Γ.at 0)) (h138 : C138 (Γ.at 0)) (h733 : C733 (Γ.at 0)) (s : Str) (hp0 : s.length ≤ 8192) : wpA (Γ.at 0) lock_platform.body (Res lock_platform (.tup [Env.D (envR s), .bool (envOK s)]) : Ex → List Ent → St → Prop) (env0 lock_platform [.str s]) ⟨0, []⟩ := by
  show wpA _ _ _ [⟨true, .str s⟩, .un, .un, .un, .un, .un, .un, .un, .un, .un, .un, .un, .un] ⟨0, []⟩
  have hsl := splitL_len s 32
  generalize hL : splitL s 32 = L at hsl
  have hP : envP s = (decide (L.length = 4) && decide (L[0]! = [112, 108, 97, 116, 102, 111, 114, 109]) && allF (fun i => !decide (L[i + 1]! = [])) 0 3) := by subst hL; rfl
  have hX : envX s = ⟨undashS L[1]!, undashS L[2]!, undashS L[3]!⟩ := by subst hL; rfl
  refine wp_regseq ?_; refine r_box ?_; refine r_mv ?_; refine reg_end (env' := [_, ⟨_, _⟩, ⟨_, (.bool _)⟩, _, _, _, _, _, _, _, _, _, _]) ?_; refine wp_regseq ?_; refine r_box ?_; refine reg_end (env' := [_, _, _, _, _, _, _, _, _, _, _, _, ⟨_, _⟩]) ?_; refine wp_regseq ?_; refine r_mv ?_
  refine r_call (hc := h124 s 32 (by omega)) ?_; rw [show ((32 : UInt8).toNat : Int) = 32 from rfl, hL]
  refine r_mv ?_; refine reg_end (env' := [_, _, _, ⟨_, (.sl _ _)⟩, _, _, _, _, _, _, _, _, _]) ?_; refine wp_assoc ?_; refine wp_regseq ?_; refine r_mv ?_
  refine r_lenM fun hlR3_1 => ?_; replace hlR3_1 := hlR3_1 rfl rfl
  refine r_neqI ?_; refine r_mv ?_; refine r_mv ?_
  refine r_iaM 0 (hb := fun h => by simp at h; omega) ?_
  first | refine r_ldR (v := (.str _)) ?_ | refine r_ldQ (v := (.str _)) ?_
  refine r_neqS ?_; refine r_or ?_; refine reg_end (env' := [_, _, _, _, ⟨_, (.bool _)⟩, _, _, _, _, _, _, _, _]) ?_
  refine wp_condseq (fun hc0 => ?_) (fun hc0 => ?_)
  · simp only [Bool.or_eq_true, Bool.not_eq_true', decide_eq_false_iff_not] at hc0
    refine wp_assoc ?_; refine wp_regseq ?_; refine r_buildD (Env.D envZ) ?_; refine r_stF _ ?_; refine r_mv ?_; refine reg_end (env' := [_, _, ⟨_, (.bool _)⟩, _, _, _, _, _, _, _, _, _, _]) ?_; refine wp_retseq ?_
    refine res_of trivial q2 q3 (Eq.trans q7 (tup_eq2 ?_ (congrArg D.bool ?_)))
    all_goals
      have hq : envP s = false := by
        rw [hP]; rcases hc0 with h | h
        · rw [decide_eq_false (by omega : ¬ L.length = 4)]; rfl
        · rw [decide_eq_false h]; simp
      simp only [envR, envOK, hq]
      rfl
  · simp only [Bool.or_eq_false_iff, Bool.not_eq_false', decide_eq_true_eq] at hc0
    refine wp_skipseq ?_; refine wp_assoc ?_; refine wp_regseq ?_; refine r_mv ?_
    refine r_slM_lo 1 (hi := fun _ => rfl) ?_
    refine r_lenM fun hlR5_2 => ?_; replace hlR5_2 := hlR5_2 rfl rfl
    refine r_mv ?_; refine reg_end (env' := [_, _, _, _, _, ⟨_, (.int _ _)⟩, ⟨_, (.int _ _)⟩, _, ⟨_, (.sl _ _)⟩, _, _, _, _]) ?_
    have h4 : L.length = 4 := by omega
    have hdl : (L.drop 1).length = 3 := by simp; omega
    have hP0 : envP s = allF (fun i => !decide (L[i + 1]! = [])) 0 3 := by rw [hP, decide_eq_true h4, decide_eq_true hc0.2]; rfl
    refine wp_for hm (ι := Nat) (fun i => [.un, ⟨true, .ptr 0 3 0 0⟩, .un, .un, .un, ⟨true, .int .i64 (i : Nat)⟩, ⟨true, .int .i64 ((L.drop 1).length : Nat)⟩, .un, ⟨true, .sl 1 ((L.drop 1).map D.str)⟩, .un, .un, .un, ⟨true, .ptr 2 3 0 0⟩]) (fun i => [(0, .buf 3 [Env.D envZ]), (2, .buf 3 [eArr L i])]) 19 (fun i => i ≤ 3 ∧ envP s = allF (fun i => !decide (L[i + 1]! = [])) i 3) (fun i => 3 - i) 0 ⟨by omega, hP0⟩ (Ghost.to [(0, 0), (2, 2)] q7 q7 q4 q1) ?_
    rintro i ⟨hi, hr⟩
    refine wp_regseq ?_; refine r_lssI ?_; refine reg_end (env' := [_, _, _, _, _, _, _, ⟨_, (.bool _)⟩, _, _, _, _, _]) ?_
    refine wp_condseq (fun hc1 => ?_) (fun hc1 => ?_)
    · try simp only [b0, b1, b2, b3, b4, b5, b6, b7, b8, b9, b10, b11] at hc1
      refine wp_skipseq ?_
      refine wp_blockseq ?_ hm
      refine wp_regseq ?_
      have hdg : (L.drop 1)[i]! = L[i + 1]! := drop_get L i (by omega)
      refine r_mv ?_
      first | refine r_iaM _ ?_ | refine r_iaMT ?_
      first | refine r_ldR (v := (.str _)) ?_ | refine r_ldQ (v := (.str _)) ?_
      refine r_mv ?_; refine r_mv ?_; refine reg_end (env' := [_, _, _, _, _, _, _, _, _, ⟨_, (.str _)⟩, _, ⟨_, (.int _ _)⟩, _]) ?_; refine wp_assoc ?_; refine wp_regseq ?_
      rw [hdg]
      refine r_mv ?_; refine r_eqlS ?_; refine reg_end (env' := [_, _, _, _, _, _, _, _, _, _, ⟨_, (.bool _)⟩, _, _]) ?_
      refine wp_condseq (fun hc2 => ?_) (fun hc2 => ?_)
      · try simp only [b0, b1, b2, b3, b4, b5, b6, b7, b8, b9, b10, b11] at hc2
        refine wp_assoc ?_; refine wp_regseq ?_; refine r_buildD (Env.D envZ) ?_; refine r_stF _ ?_; refine r_mv ?_; refine reg_end (env' := [_, _, ⟨_, (.bool _)⟩, _, _, _, _, _, _, _, _, _, _]) ?_; refine wp_retseq ?_; refine BQ.ret ?_; refine LQ.ret ?_
        refine res_of trivial q2 q3 (Eq.trans q7 (tup_eq2 ?_ (congrArg D.bool ?_)))
        all_goals
          have hq : envP s = false := by rw [hr, allF_lt (by omega), decide_eq_true hc2]; rfl
          simp only [envR, envOK, hq]
          rfl
      · try simp only [b0, b1, b2, b3, b4, b5, b6, b7, b8, b9, b10, b11] at hc2
        refine wp_skipseq ?_; refine wp_reg ?_; refine r_mv ?_; refine r_mv ?_; refine r_call (hc := h733 _) ?_; refine r_faP ?_; refine r_iaPP i ?_; refine r_stF (eArr L (i + 1)) (he := eArr_set L i (by omega)) ?_; refine reg_fin (env' := [_, _, _, _, _, _, _, _, _, _, _, _, _]) ?_; refine BQ.normal ?_; refine wp_reg ?_; refine r_add64 ?_; refine r_mv ?_; refine reg_fin (env' := [_, _, _, _, _, ⟨_, (.int _ _)⟩, _, _, _, _, _, _, _]) ?_; refine LQ.normal ?_
        exact ⟨i + 1, ⟨by omega, by rw [hr, allF_lt (by omega), decide_eq_false hc2]; rfl⟩, by omega, (Ghost.to [(0, 0), (2, 2)] q7 q7 q4 q1)⟩
    · try simp only [b0, b1, b2, b3, b4, b5, b6, b7, b8, b9, b10, b11] at hc1
      refine wp_exitseq ?_; refine LQ.out ?_; refine wp_regseq ?_
      have h3 : i = 3 := by omega
      subst h3
      rw [show eArr L 3 = Env.D (envX s) by rw [hX]; rfl]
      refine r_ldB ?_; refine r_ldB ?_; refine r_call (hc := h138 (envX s)) ?_; refine r_stF _ ?_; refine r_mv ?_; refine reg_end (env' := [_, _, ⟨_, (.bool _)⟩, _, _, _, _, _, _, _, _, _, _]) ?_; refine wp_ret ?_
      refine res_of trivial q2 q3 (Eq.trans q7 (tup_eq2 ?_ (congrArg D.bool ?_)))
      all_goals
        have hq : envP s = true := by rw [hr, allF_ge (by omega)]
        simp only [envR, envOK, hq]
        rfl
def C546 (Γ : Ctx) : Prop := ∀ (s : Str), (s.length ≤ 8192) → Γ.pre 546 [.str s] ∧ Γ.val 546 [.str s] = .tup [Env.D (envR s), .bool (envOK s)]
end Go.Abs
end
section
namespace Go.Abs
open Go
/-- linchpin/lock.locked -/
def lock_locked : AFunc := { np := 1, ns := 10, res := [⟨1, some (9, true)⟩, ⟨2, none⟩], rsh := [[.a, .a, .a, .a, .a, .a, .a, .a, .sl 1 [.a]], [.a]], body := (.seq (.reg false [⟨.box 9 (.c (.agg [.str [], .int .i64 0, .int .i64 0, .int .i64 0, .str [], .str [], .str [], .int .u64 0, .nils])), none⟩, ⟨.mv (.c (.bool false)), none⟩] [(1, 0), (2, 1)]) (.seq (.reg false [⟨.mv (.s 0), none⟩, ⟨.call 124 [(.l 0), (.c (.str [32]))] [[.a], [.a]], none⟩, ⟨.mv (.l 1), none⟩] [(3, 2)]) (.seq (.seq (.reg false [⟨.mv (.s 3), none⟩, ⟨.len (.l 0), none⟩, ⟨.bin .lss (.l 1) (.c (.int .i64 4)), none⟩, ⟨.mv (.l 2), none⟩, ⟨.mv (.s 3), some (3, false)⟩, ⟨.ia 1 (.l 4) (.c (.int .i64 2)), some (3, false)⟩, ⟨.ld 1 false (.l 5), some (3, false)⟩, ⟨.bin .eql (.l 6) (.c (.str [])), some (3, false)⟩, ⟨.pick (.l 3) (.c (.bool true)) (.l 7), none⟩] [(4, 8)]) (.cond (.s 4) (.seq (.reg false [⟨.build [.str [], .int .i64 0, .int .i64 0, .int .i64 0, .str [], .str [], .str [], .int .u64 0, .nils] [], none⟩, ⟨.st 9 (.s 1) (.l 0), none⟩, ⟨.mv (.c (.bool false)), none⟩] [(2, 2)]) .ret) .skip)) (.seq (.reg false [⟨.mv (.s 3), none⟩, ⟨.ia 1 (.l 0) (.c (.int .i64 1)), none⟩, ⟨.ld 1 false (.l 1), none⟩, ⟨.call 466 [(.l 2)] [[.a]], none⟩, ⟨.mv (.l 3), none⟩, ⟨.ext (.l 4) 0, none⟩, ⟨.ext (.l 4) 1, none⟩, ⟨.box 5 (.c (.agg [.int .i64 0, .int .i64 0, .int .i64 0, .str [], .str []])), none⟩, ⟨.st 5 (.l 7) (.l 5), none⟩, ⟨.mv (.l 6), none⟩] [(5, 7), (8, 9)]) (.seq (.reg false [⟨.mv (.s 3), none⟩, ⟨.ia 1 (.l 0) (.c (.int .i64 3)), none⟩, ⟨.ld 1 false (.l 1), none⟩, ⟨.call 499 [(.l 2)] [[.a]], none⟩, ⟨.mv (.l 3), none⟩, ⟨.ext (.l 4) 0, none⟩, ⟨.ext (.l 4) 1, none⟩, ⟨.mv (.l 5), none⟩, ⟨.mv (.l 6), none⟩] [(6, 7), (9, 8)]) (.seq (.reg true [⟨.mv (.s 3), none⟩, ⟨.ia 1 (.l 0) (.c (.int .i64 0)), none⟩, ⟨.ld 1 false (.l 1), none⟩, ⟨.ld 5 true (.s 5), none⟩, ⟨.mv (.s 3), none⟩, ⟨.ia 1 (.l 4) (.c (.int .i64 2)), none⟩, ⟨.ld 1 false (.l 5), none⟩, ⟨.call 733 [(.l 6)] [[.a]], none⟩, ⟨.mv (.s 6), none⟩, ⟨.mv (.s 3), none⟩, ⟨.slA 1 (.l 9) (some (.c (.int .i64 4))) none, none⟩, ⟨.build [.str [], .int .i64 0, .int .i64 0, .int .i64 0, .str [], .str [], .str [], .int .u64 0, .nils] [(0, 1, (.l 2)), (1, 5, (.l 3)), (6, 1, (.l 7)), (7, 1, (.l 8)), (8, 1, (.l 10))], none⟩, ⟨.build [.str [], .int .i64 0, .int .i64 0, .int .i64 0, .str [], .str [], .str [], .int .u64 0, .nils] [(0, 9, (.l 11))], none⟩, ⟨.box 9 (.c (.agg [.str [], .int .i64 0, .int .i64 0, .int .i64 0, .str [], .str [], .str [], .int .u64 0, .nils])), none⟩, ⟨.st 9 (.l 13) (.l 12), none⟩] [(7, 13)]) (.seq (.reg true [⟨.fa 0 (.s 7), none⟩, ⟨.ld 9 true (.l 0), none⟩, ⟨.mv (.s 8), none⟩, ⟨.bin .eql (.l 2) (.c (.int .i64 0)), none⟩, ⟨.mv (.l 3), none⟩, ⟨.mv (.s 9), some (4, true)⟩, ⟨.pick (.l 4) (.l 5) (.c (.bool false)), none⟩, ⟨.mv (.l 6), none⟩, ⟨.ld 9 true (.s 7), some (7, true)⟩, ⟨.call 553 [(.l 8)] [[.a, .a, .a, .a, .a, .a, .a, .a, .sl 1 [.a]]], some (7, true)⟩, ⟨.pick (.l 7) (.l 9) (.c (.bool false)), none⟩, ⟨.st 9 (.s 1) (.l 1), none⟩, ⟨.mv (.l 10), none⟩] [(2, 12)]) .ret))))))) }
theorem w547 {Γ : Ctx} (hm : (Γ.at 0).Mono) (h124 : C124 (Γ.at 0)) (h466 : C466 (Γ.at 0)) (h499 : C499 (Γ.at 0)) (h553 : C553 (Γ.at 0)) (h733 : C733 (Γ.at 0)) (t : Str) (hp0 : t.length ≤ 8192) : wpA (Γ.at 0) lock_locked.body (Res lock_locked (.tup [Lkd.D (lkdR t), .bool (lkdOK t)]) : Ex → List Ent → St → Prop) (env0 lock_locked [.str t]) ⟨0, []⟩ := by
  show wpA _ _ _ [⟨true, .str t⟩, .un, .un, .un, .un, .un, .un, .un, .un, .un] ⟨0, []⟩
  have hsm := lkdX_sm (t := t) hp0
  have hsl := splitL_len t 32
  have hwl : ∀ i, i < (splitL t 32).length → ((splitL t 32)[i]!).length ≤ 8192 := fun i hi => Nat.le_trans (splitL_get t 32 hi) hp0
  generalize hL : splitL t 32 = L at hsm hsl hwl
  have hP : lkdP t = (decide (4 ≤ L.length) && !decide (L[2]! = [])) := by subst hL; rfl
  have hX : lkdX t = ⟨L[0]!, (verQ L[1]!).getD verZ, undashS L[2]!, readO L[3]!, L.drop 4⟩ := by subst hL; rfl
  have hK : lkdOK t = (lkdP t && (verQ L[1]!).isSome && readB L[3]! && lkdB (lkdX t)) := by subst hL; rfl
  generalize hXX : lkdX t = X at hsm hX hK
  refine wp_regseq ?_; refine r_box ?_; refine r_mv ?_; refine reg_end (env' := [_, ⟨_, _⟩, ⟨_, (.bool _)⟩, _, _, _, _, _, _, _]) ?_; refine wp_regseq ?_; refine r_mv ?_
  refine r_call (hc := h124 t 32 (by omega)) ?_; rw [show ((32 : UInt8).toNat : Int) = 32 from rfl, hL]
  refine r_mv ?_; refine reg_end (env' := [_, _, _, ⟨_, (.sl _ _)⟩, _, _, _, _, _, _]) ?_; refine wp_assoc ?_; refine wp_regseq ?_; refine r_mv ?_
  refine r_lenM fun hlR2_1 => ?_; replace hlR2_1 := hlR2_1 rfl rfl
  refine r_lssI ?_; refine r_mv ?_; refine r_mv ?_
  refine r_iaM 2 (hb := fun h => by simp at h; omega) ?_
  first | refine r_ldR (v := (.str _)) ?_ | refine r_ldQ (v := (.str _)) ?_
  refine r_eqlS ?_; refine r_or ?_; refine reg_end (env' := [_, _, _, _, ⟨_, (.bool _)⟩, _, _, _, _, _]) ?_
  refine wp_condseq (fun hc0 => ?_) (fun hc0 => ?_)
  · simp only [Bool.or_eq_true, decide_eq_true_eq] at hc0
    refine wp_assoc ?_; refine wp_regseq ?_; refine r_build _ ?_; refine r_stF _ ?_; refine r_mv ?_; refine reg_end (env' := [_, _, ⟨_, (.bool _)⟩, _, _, _, _, _, _, _]) ?_; refine wp_retseq ?_
    refine res_of trivial q2 q3 (Eq.trans q7 (tup_eq2 ?_ (congrArg D.bool ?_)))
    all_goals
      have hq : lkdP t = false := by
        rw [hP]; rcases hc0 with h | h
        · rw [decide_eq_false (by omega : ¬ 4 ≤ L.length)]; rfl
        · rw [decide_eq_true h]; simp
      simp only [lkdR, hK, hq]
      rfl
  · simp only [Bool.or_eq_false_iff, decide_eq_false_iff_not] at hc0
    refine wp_skipseq ?_; refine wp_regseq ?_
    have hw1 := hwl 1 (by omega)
    refine r_mv ?_; refine r_iaM 1 ?_
    first | refine r_ldR (v := (.str _)) ?_ | refine r_ldQ (v := (.str _)) ?_
    refine r_call (hc := h466 L[1]! (by omega)) ?_; refine r_mv ?_; refine r_ext (Ver.D _) ?_; refine r_ext (.int _ _) ?_; refine r_box ?_; refine r_stF _ ?_; refine r_mv ?_; refine reg_end (env' := [_, _, _, _, _, ⟨_, _⟩, _, _, ⟨_, (.int _ _)⟩, _]) ?_; refine wp_regseq ?_; refine r_mv ?_; refine r_iaM 3 ?_
    first | refine r_ldR (v := (.str _)) ?_ | refine r_ldQ (v := (.str _)) ?_
    refine r_call (hc := h499 L[3]!) ?_; refine r_mv ?_; refine r_ext (.int _ _) ?_; refine r_ext (.bool _) ?_; refine r_mv ?_; refine r_mv ?_; refine reg_end (env' := [_, _, _, _, _, _, ⟨_, (.int _ _)⟩, _, _, ⟨_, (.bool _)⟩]) ?_; refine wp_regseq ?_; refine r_mv ?_; refine r_iaM 0 ?_
    first | refine r_ldR (v := (.str _)) ?_ | refine r_ldQ (v := (.str _)) ?_
    refine r_ldB ?_; refine r_mv ?_; refine r_iaM 2 ?_
    first | refine r_ldR (v := (.str _)) ?_ | refine r_ldQ (v := (.str _)) ?_
    refine r_call (hc := h733 _) ?_; refine r_mv ?_; refine r_mv ?_
    refine r_slM_lo 4 (hi := fun _ => rfl) ?_
    refine r_buildD (Lkd.D X) (hv := fun _ => by rw [hX]; exact rfl) ?_
    refine r_buildD (Lkd.D X) ?_; refine r_box ?_; refine r_stF (Lkd.D X) (he := by exact rfl) ?_; refine reg_end (env' := [_, _, _, _, _, _, _, ⟨_, _⟩, _, _]) ?_; refine wp_regseq ?_; refine r_faP ?_; refine r_ldB ?_; refine r_mv ?_; refine r_eqlI ?_; refine r_mv ?_; refine r_mv ?_; refine r_and ?_; refine r_mv ?_; refine r_ldB ?_
    refine r_callG (hc := fun _ => h553 X (hsm (by omega))) ?_
    refine r_and ?_; refine r_stF (Lkd.D X) (he := by exact rfl) ?_; refine r_mv ?_; refine reg_end (env' := [_, _, ⟨_, (.bool _)⟩, _, _, _, _, _, _, _]) ?_; refine wp_ret ?_
    refine res_of trivial q2 q3 (Eq.trans q7 (tup_eq2 ?_ (congrArg D.bool ?_)))
    all_goals
      have hq : lkdP t = true := by rw [hP, decide_eq_true (by omega : 4 ≤ L.length), decide_eq_false hc0.2]; rfl
      simp only [lkdR, hK, hq, hXX, if_true, Bool.true_and, verE_dec]
      first | exact rfl | skip
def C547 (Γ : Ctx) : Prop := ∀ (t : Str), (t.length ≤ 8192) → Γ.pre 547 [.str t] ∧ Γ.val 547 [.str t] = .tup [Lkd.D (lkdR t), .bool (lkdOK t)]
end Go.Abs
end
section
namespace Go.Abs
open Go
/-- linchpin/lock.Parse -/
def lock_Parse : AFunc := { np := 1, ns := 30, res := [⟨1, some (4, true)⟩, ⟨2, none⟩, ⟨3, none⟩], rsh := [[.a, .a, .a, .sl 9 [.a, .a, .a, .a, .a, .a, .a, .a, .sl 1 [.a]]], [.a], [.a]], body := (.seq (.reg false [⟨.box 4 (.c (.agg [.str [], .str [], .str [], .nils])), none⟩, ⟨.mv (.c (.int .i64 0)), none⟩, ⟨.mv (.c (.int .i64 0)), none⟩] [(1, 0), (2, 1), (3, 2)]) (.seq (.seq (.reg false [⟨.mv (.s 0), none⟩, ⟨.lenS (.l 0), none⟩, ⟨.bin .gtr (.l 1) (.c (.int .i64 8192)), none⟩] [(4, 2)]) (.cond (.s 4) (.seq (.reg false [⟨.build [.str [], .str [], .str [], .nils] [], none⟩, ⟨.st 4 (.s 1) (.l 0), none⟩, ⟨.mv (.c (.int .i64 32)), none⟩, ⟨.mv (.c (.int .i64 0)), none⟩] [(2, 2), (3, 3)]) .ret) .skip)) (.seq (.reg false [⟨.mv (.s 0), none⟩, ⟨.build [.str [], .int .i64 0, .int .i64 0] [(0, 1, (.l 0))], none⟩, ⟨.box 3 (.l 1), none⟩, ⟨.mv (.l 2), none⟩] [(5, 3)]) (.seq (.seq (.reg false [⟨.mv (.s 5), none⟩, ⟨.callF 545 (.l 0) [] [], none⟩, ⟨.mv (.l 1), none⟩, ⟨.ext (.l 2) 0, none⟩, ⟨.ext (.l 2) 1, none⟩, ⟨.mv (.l 3), none⟩, ⟨.mv (.l 4), none⟩] [(7, 5), (6, 6)]) (.seq (.reg false [⟨.mv (.s 6), none⟩, ⟨.un .not (.l 0), none⟩, ⟨.mv (.l 1), none⟩, ⟨.mv (.s 7), some (2, false)⟩, ⟨.bin .neq (.l 3) (.c (.str [108, 105, 110, 99, 104, 112, 105, 110, 32, 108, 111, 99, 107])), some (2, false)⟩, ⟨.pick (.l 2) (.c (.bool true)) (.l 4), none⟩] [(8, 5)]) (.cond (.s 8) (.seq (.reg true [⟨.build [.str [], .str [], .str [], .nils] [], none⟩, ⟨.mv (.s 5), none⟩, ⟨.nilck (.l 1), none⟩, ⟨.fa 2 (.l 2), none⟩, ⟨.ldI 1 false (.l 3), none⟩, ⟨.st 4 (.s 1) (.l 0), none⟩, ⟨.mv (.c (.int .i64 2)), none⟩, ⟨.mv (.l 4), none⟩] [(2, 6), (3, 7)]) .ret) .skip))) (.seq (.reg false [⟨.mv (.s 5), none⟩, ⟨.callF 545 (.l 0) [] [], none⟩, ⟨.mv (.l 1), none⟩, ⟨.ext (.l 2) 0, none⟩, ⟨.ext (.l 2) 1, none⟩, ⟨.mv (.l 3), none⟩, ⟨.mv (.l 4), none⟩] [(9, 5), (10, 6)]) (.seq (.reg false [⟨.mv (.s 9), none⟩, ⟨.call 546 [(.l 0)] [[.a]], none⟩, ⟨.mv (.l 1), none⟩, ⟨.ext (.l 2) 0, none⟩, ⟨.ext (.l 2) 1, none⟩, ⟨.box 3 (.c (.agg [.str [], .str [], .str []])), none⟩, ⟨.st 3 (.l 5) (.l 3), none⟩, ⟨.mv (.l 4), none⟩] [(13, 5), (11, 7)]) (.seq (.seq (.reg false [⟨.mv (.s 10), none⟩, ⟨.un .not (.l 0), none⟩, ⟨.mv (.l 1), none⟩, ⟨.mv (.s 11), some (2, false)⟩, ⟨.un .not (.l 3), some (2, false)⟩, ⟨.pick (.l 2) (.c (.bool true)) (.l 4), none⟩] [(12, 5)]) (.cond (.s 12) (.seq (.reg true [⟨.build [.str [], .str [], .str [], .nils] [], none⟩, ⟨.mv (.s 5), none⟩, ⟨.nilck (.l 1), none⟩, ⟨.fa 2 (.l 2), none⟩, ⟨.ldI 1 false (.l 3), none⟩, ⟨.st 4 (.s 1) (.l 0), none⟩, ⟨.mv (.c (.int .i64 2)), none⟩, ⟨.mv (.l 4), none⟩] [(2, 6), (3, 7)]) .ret) .skip)) (.seq (.reg false [⟨.ld 3 true (.s 13), none⟩, ⟨.build [.str [], .str [], .str [], .nils] [(0, 3, (.l 0))], none⟩, ⟨.box 4 (.c (.agg [.str [], .str [], .str [], .nils])), none⟩, ⟨.st 4 (.l 2) (.l 1), none⟩] [(25, 2)]) (.block 0 (.loop (.block 1 (.seq (.reg false [⟨.mv (.s 5), none⟩, ⟨.nilck (.l 0), none⟩, ⟨.fa 1 (.l 1), none⟩, ⟨.ld 1 false (.l 2), none⟩, ⟨.mv (.l 3), none⟩] [(23, 4)]) (.seq (.reg false [⟨.mv (.s 5), none⟩, ⟨.callF 545 (.l 0) [] [], none⟩, ⟨.mv (.l 1), none⟩, ⟨.ext (.l 2) 0, none⟩, ⟨.ext (.l 2) 1, none⟩, ⟨.mv (.l 3), none⟩, ⟨.mv (.l 4), none⟩] [(14, 5), (16, 6)]) (.seq (.seq (.reg false [⟨.mv (.s 14), none⟩, ⟨.call 254 [(.l 0), (.c (.str [115, 117, 109, 32]))] [[.a], [.a]], none⟩, ⟨.mv (.l 1), none⟩, ⟨.ext (.l 2) 0, none⟩, ⟨.ext (.l 2) 1, none⟩, ⟨.mv (.l 3), none⟩, ⟨.mv (.l 4), none⟩] [(17, 5), (15, 6)]) (.seq (.reg false [⟨.mv (.s 15), none⟩, ⟨.mv (.l 0), none⟩, ⟨.mv (.s 16), some (1, true)⟩, ⟨.pick (.l 1) (.l 2) (.c (.bool false)), none⟩, ⟨.mv (.l 3), none⟩, ⟨.mv (.s 17), some (4, true)⟩, ⟨.call 491 [(.l 5), (.c (.str [32]))] [[.a], [.a]], some (4, true)⟩, ⟨.un .not (.l 6), some (4, true)⟩, ⟨.pick (.l 4) (.l 7) (.c (.bool false)), none⟩] [(18, 8)]) (.cond (.s 18) (.seq (.reg false [⟨.mv (.s 17), none⟩, ⟨.call 499 [(.l 0)] [[.a]], none⟩, ⟨.mv (.l 1), none⟩, ⟨.ext (.l 2) 0, none⟩, ⟨.ext (.l 2) 1, none⟩, ⟨.mv (.l 3), none⟩, ⟨.mv (.l 4), none⟩] [(22, 5), (19, 6)]) (.seq (.block 2 (.seq (.reg false [⟨.mv (.s 19), none⟩, ⟨.un .not (.l 0), none⟩, ⟨.mv (.l 1), none⟩] [(20, 2)]) (.cond (.s 20) (.seq (.reg true [⟨.build [.str [], .str [], .str [], .nils] [], none⟩, ⟨.mv (.s 5), none⟩, ⟨.nilck (.l 1), none⟩, ⟨.fa 2 (.l 2), none⟩, ⟨.ldI 1 false (.l 3), none⟩, ⟨.st 4 (.s 1) (.l 0), none⟩, ⟨.mv (.c (.int .i64 2)), none⟩, ⟨.mv (.l 4), none⟩] [(2, 6), (3, 7)]) .ret) (.seq (.reg false [⟨.mv (.s 5), none⟩, ⟨.nilck (.l 0), none⟩, ⟨.fa 1 (.l 1), none⟩, ⟨.ld 1 false (.l 2), none⟩, ⟨.mv (.s 0), none⟩, ⟨.lenS (.l 4), none⟩, ⟨.bin .lss (.l 3) (.l 5), none⟩, ⟨.mv (.l 6), none⟩] [(21, 7)]) (.cond (.s 21) (.seq (.reg true [⟨.build [.str [], .str [], .str [], .nils] [], none⟩, ⟨.mv (.s 5), none⟩, ⟨.nilck (.l 1), none⟩, ⟨.fa 2 (.l 2), none⟩, ⟨.ldI 1 false (.l 3), none⟩, ⟨.bin .add (.l 4) (.c (.int .i64 1)), none⟩, ⟨.st 4 (.s 1) (.l 0), none⟩, ⟨.mv (.c (.int .i64 2)), none⟩, ⟨.mv (.l 5), none⟩] [(2, 7), (3, 8)]) .ret) (.seq (.reg false [⟨.mv (.s 22), none⟩, ⟨.mv (.s 0), none⟩, ⟨.mv (.s 23), none⟩, ⟨.slS (.l 1) none (some (.l 2)), none⟩, ⟨.s2b (.l 3), none⟩, ⟨.call 220 [(.l 4)] [[.sl 1 [.a]]], none⟩, ⟨.bin .neq (.l 0) (.l 5), none⟩, ⟨.mv (.l 6), none⟩] [(24, 7)]) (.cond (.s 24) (.seq (.reg false [⟨.build [.str [], .str [], .str [], .nils] [], none⟩, ⟨.st 4 (.s 1) (.l 0), none⟩, ⟨.mv (.c (.int .i64 13)), none⟩, ⟨.mv (.c (.int .i64 0)), none⟩] [(2, 2), (3, 3)]) .ret) .skip))))))) (.seq (.reg false [⟨.ld 4 true (.s 25), none⟩, ⟨.st 4 (.s 1) (.l 0), none⟩, ⟨.mv (.c (.int .i64 0)), none⟩, ⟨.mv (.c (.int .i64 0)), none⟩] [(2, 2), (3, 3)]) .ret))) .skip))) (.seq (.reg false [⟨.mv (.s 14), none⟩, ⟨.call 547 [(.l 0)] [[.a]], none⟩, ⟨.mv (.l 1), none⟩, ⟨.ext (.l 2) 0, none⟩, ⟨.ext (.l 2) 1, none⟩, ⟨.box 9 (.c (.agg [.str [], .int .i64 0, .int .i64 0, .int .i64 0, .str [], .str [], .str [], .int .u64 0, .nils])), none⟩, ⟨.st 9 (.l 5) (.l 3), none⟩, ⟨.mv (.l 4), none⟩] [(28, 5), (26, 7)]) (.seq (.seq (.reg false [⟨.fa 3 (.s 25), none⟩, ⟨.ld 1 false (.l 0), none⟩, ⟨.len (.l 1), none⟩, ⟨.mv (.l 2), none⟩] [(27, 3)]) (.seq (.reg true [⟨.mv (.s 16), none⟩, ⟨.un .not (.l 0), none⟩, ⟨.mv (.l 1), none⟩, ⟨.mv (.s 26), some (2, false)⟩, ⟨.un .not (.l 3), some (2, false)⟩, ⟨.pick (.l 2) (.c (.bool true)) (.l 4), none⟩, ⟨.mv (.l 5), none⟩, ⟨.mv (.s 27), some (6, false)⟩, ⟨.bin .geq (.l 7) (.c (.int .i64 48)), some (6, false)⟩, ⟨.pick (.l 6) (.c (.bool true)) (.l 8), none⟩, ⟨.mv (.l 9), none⟩, ⟨.mv (.s 27), some (10, false)⟩, ⟨.bin .gtr (.l 11) (.c (.int .i64 0)), some (10, false)⟩, ⟨.mv (.l 12), some (10, false)⟩, ⟨.fa 3 (.s 25), some (13, true)⟩, ⟨.ld 1 false (.l 14), some (13, true)⟩, ⟨.mv (.s 27), some (13, true)⟩, ⟨.bin .sub (.l 16) (.c (.int .i64 1)), some (13, true)⟩, ⟨.ia 9 (.l 15) (.l 17), some (13, true)⟩, ⟨.fa 0 (.l 18), some (13, true)⟩, ⟨.ld 1 false (.l 19), some (13, true)⟩, ⟨.fa 0 (.s 28), some (13, true)⟩, ⟨.ld 1 false (.l 21), some (13, true)⟩, ⟨.bin .geq (.l 20) (.l 22), some (13, true)⟩, ⟨.pick (.l 13) (.l 23) (.c (.bool false)), some (10, false)⟩, ⟨.pick (.l 10) (.c (.bool true)) (.l 24), none⟩] [(29, 25)]) (.cond (.s 29) (.seq (.reg true [⟨.build [.str [], .str [], .str [], .nils] [], none⟩, ⟨.mv (.s 5), none⟩, ⟨.nilck (.l 1), none⟩, ⟨.fa 2 (.l 2), none⟩, ⟨.ldI 1 false (.l 3), none⟩, ⟨.st 4 (.s 1) (.l 0), none⟩, ⟨.mv (.c (.int .i64 2)), none⟩, ⟨.mv (.l 4), none⟩] [(2, 6), (3, 7)]) .ret) .skip))) (.reg false [⟨.fa 3 (.s 25), none⟩, ⟨.ld 1 false (.l 0), none⟩, ⟨.ld 9 true (.s 28), none⟩, ⟨.bsl 9 (.agg [.str [], .int .i64 0, .int .i64 0, .int .i64 0, .str [], .str [], .str [], .int .u64 0, .nils]) 1 [(0, (.l 2))], none⟩, ⟨.app 9 (.l 1) (.l 3), none⟩, ⟨.fa 3 (.s 25), none⟩, ⟨.st 1 (.l 5) (.l 4), none⟩] []))))))))))))))))) }
theorem w309 {Γ : Ctx} (hm : (Γ.at 0).Mono) (h220 : C220 (Γ.at 0)) (h254 : C254 (Γ.at 0)) (h491 : C491 (Γ.at 0)) (h499 : C499 (Γ.at 0)) (h545 : C545 (Γ.at 0)) (h546 : C546 (Γ.at 0)) (h547 : C547 (Γ.at 0)) (s : Str) (hp0 : s.length ≤ 1048576) : wpA (Γ.at 0) lock_Parse.body (Res lock_Parse (.tup [Lck.D (parseX s).1, .int .i64 (parseX s).2.1, .int .i64 (parseX s).2.2]) : Ex → List Ent → St → Prop) (env0 lock_Parse [.str s]) ⟨0, []⟩ := by
  show wpA _ _ _ [⟨true, .str s⟩, .un, .un, .un, .un, .un, .un, .un, .un, .un, .un, .un, .un, .un, .un, .un, .un, .un, .un, .un, .un, .un, .un, .un, .un, .un, .un, .un, .un, .un] ⟨0, []⟩
  refine wp_regseq ?_; refine r_box ?_; refine r_mv ?_; refine r_mv ?_; refine reg_end (env' := [_, ⟨_, _⟩, ⟨_, (.int _ _)⟩, ⟨_, (.int _ _)⟩, _, _, _, _, _, _, _, _, _, _, _, _, _, _, _, _, _, _, _, _, _, _, _, _, _, _]) ?_; refine wp_assoc ?_; refine wp_regseq ?_; refine r_mv ?_
  refine r_lenS fun hlR1_1 => ?_; replace hlR1_1 := hlR1_1 rfl rfl
  refine r_gtrI ?_; refine reg_end (env' := [_, _, _, _, ⟨_, (.bool _)⟩, _, _, _, _, _, _, _, _, _, _, _, _, _, _, _, _, _, _, _, _, _, _, _, _, _]) ?_
  refine wp_condseq (fun hc0 => ?_) (fun hc0 => ?_)
  · try simp only [b0, b1, b2, b3, b4, b5, b6, b7, b8, b9, b10, b11] at hc0
    refine wp_assoc ?_; refine wp_regseq ?_; refine r_build _ ?_; refine r_stF _ ?_; refine r_mv ?_; refine r_mv ?_; refine reg_end (env' := [_, _, ⟨_, (.int _ _)⟩, ⟨_, (.int _ _)⟩, _, _, _, _, _, _, _, _, _, _, _, _, _, _, _, _, _, _, _, _, _, _, _, _, _, _]) ?_; refine wp_retseq ?_
    refine res_of trivial q2 q3 (Eq.trans q7 (tup_eq3 ?_ (congrArg (D.int .i64) ?_) (congrArg (D.int .i64) ?_)))
    all_goals
      have hpp : parseX s = (lckZ, 32, 0) := by
        unfold parseX
        rw [if_pos (by omega)]
      first | (rw [hpp]; done) | (rw [hpp]; rfl)
  · try simp only [b0, b1, b2, b3, b4, b5, b6, b7, b8, b9, b10, b11] at hc0
    refine wp_skipseq ?_; refine wp_regseq ?_
    have hsl : s.length ≤ 8192 := by omega
    refine r_mv ?_; refine r_buildD (Rdr.D ⟨s, 0, 0⟩) ?_; refine r_box ?_; refine r_mv ?_; refine reg_end (env' := [_, _, _, _, _, ⟨_, _⟩, _, _, _, _, _, _, _, _, _, _, _, _, _, _, _, _, _, _, _, _, _, _, _, _]) ?_; refine wp_assoc ?_; refine wp_regseq ?_; refine r_mv ?_; refine r_callF (hc := h545 ⟨s, 0, 0⟩ (by simp) (by simp only; omega) (by simp)) ?_; refine r_mv ?_; refine r_ext (.str _) ?_; refine r_ext (.bool _) ?_; refine r_mv ?_; refine r_mv ?_; refine reg_end (env' := [_, _, _, _, _, _, ⟨_, (.bool _)⟩, ⟨_, (.str _)⟩, _, _, _, _, _, _, _, _, _, _, _, _, _, _, _, _, _, _, _, _, _, _]) ?_
    generalize hr0 : (⟨s, 0, 0⟩ : Rdr) = r0
    have hs0 : r0.s = s := by rw [← hr0]
    have hle0 : r0.at' ≤ r0.s.length := by rw [← hr0]; simp
    have hn0 : r0.n = 0 := by rw [← hr0]
    have hle1 := (Rdr.nxt_le r0 hle0).1
    have hs1 : r0.nxt.s = s := hs0
    have hn1 : r0.nxt.n = 1 := by show r0.n + 1 = 1; rw [hn0]
    refine wp_assoc ?_; refine wp_regseq ?_; refine r_mv ?_; refine r_not ?_; refine r_mv ?_; refine r_mv ?_; refine r_neqS ?_; refine r_or ?_; refine reg_end (env' := [_, _, _, _, _, _, _, _, ⟨_, (.bool _)⟩, _, _, _, _, _, _, _, _, _, _, _, _, _, _, _, _, _, _, _, _, _]) ?_
    refine wp_condseq (fun hc1 => ?_) (fun hc1 => ?_)
    · simp only [Bool.or_eq_true, Bool.not_eq_true', decide_eq_true_eq, decide_eq_false_iff_not, bne_iff_ne, ne_eq, Bool.not_eq_eq_eq_not, Bool.not_true] at hc1
      refine wp_assoc ?_; refine wp_fz 8 ?_; refine wp_regseq ?_; refine r_build _ ?_; refine r_mv ?_; refine r_nilR ?_; refine r_faR ?_; refine r_ldIQ (v := .int .i64 (r0.nxt.n : Nat)) ?_; refine r_stF _ ?_; refine r_mv ?_; refine r_mv ?_; refine reg_end (env' := [_, _, ⟨_, (.int _ _)⟩, ⟨_, (.int _ _)⟩, _, _, _, _, _, _, _, _, _, _, _, _, _, _, _, _, _, _, _, _, _, _, _, _, _, _]) ?_; refine wp_retseq ?_
      refine res_of trivial q2 q3 (Eq.trans q7 (tup_eq3 ?_ (congrArg (D.int .i64) ?_) (congrArg (D.int .i64) ?_)))
      all_goals
        have hpp : parseX s = (lckZ, 2, ((r0.nxt.n : Nat) : Int)) := by
          rw [hn1]
          simp only [parseX, hr0]
          rw [if_neg (by omega)]
          exact if_pos hc1
        first | (rw [hpp]; done) | (rw [hpp]; rfl)
    · simp only [Bool.or_eq_false_iff, Bool.not_eq_false', decide_eq_true_eq, decide_eq_false_iff_not, Decidable.not_not, Bool.not_eq_eq_eq_not, Bool.not_false] at hc1
      refine wp_skipseq ?_; refine wp_regseq ?_; refine r_mv ?_; refine r_callF (hc := h545 r0.nxt hle1 (by rw [hs1]; omega) (by omega)) ?_; refine r_mv ?_; refine r_ext (.str _) ?_; refine r_ext (.bool _) ?_; refine r_mv ?_; refine r_mv ?_; refine reg_end (env' := [_, _, _, _, _, _, _, _, _, ⟨_, (.str _)⟩, ⟨_, (.bool _)⟩, _, _, _, _, _, _, _, _, _, _, _, _, _, _, _, _, _, _, _]) ?_
      have hle2 := (Rdr.nxt_le r0.nxt hle1).1
      have hs2 : r0.nxt.nxt.s = s := hs1
      have hn2 : r0.nxt.nxt.n = 2 := by show r0.nxt.n + 1 = 2; rw [hn1]
      have htl : r0.nxt.ln.1.length ≤ 8192 := by
        have := (cutL_len (r0.nxt.s.drop r0.nxt.at') 10).1
        rw [List.length_drop] at this
        have h9 : r0.nxt.ln.1.length ≤ r0.nxt.s.length - r0.nxt.at' := this
        rw [hs1] at h9
        omega
      refine wp_regseq ?_; refine r_mv ?_; refine r_call (hc := h546 r0.nxt.ln.1 htl) ?_; refine r_mv ?_; refine r_ext (Env.D _) ?_; refine r_ext (.bool _) ?_; refine r_box ?_; refine r_stF _ ?_; refine r_mv ?_; refine reg_end (env' := [_, _, _, _, _, _, _, _, _, _, _, ⟨_, (.bool _)⟩, _, ⟨_, _⟩, _, _, _, _, _, _, _, _, _, _, _, _, _, _, _, _]) ?_; refine wp_assoc ?_; refine wp_regseq ?_; refine r_mv ?_; refine r_not ?_; refine r_mv ?_; refine r_mv ?_; refine r_not ?_; refine r_or ?_; refine reg_end (env' := [_, _, _, _, _, _, _, _, _, _, _, _, ⟨_, (.bool _)⟩, _, _, _, _, _, _, _, _, _, _, _, _, _, _, _, _, _]) ?_
      refine wp_condseq (fun hc2 => ?_) (fun hc2 => ?_)
      · simp only [Bool.or_eq_true, Bool.not_eq_true', Bool.not_eq_eq_eq_not, Bool.not_true] at hc2
        refine wp_assoc ?_; refine wp_fz 8 ?_; refine wp_regseq ?_; refine r_build _ ?_; refine r_mv ?_; refine r_nilR ?_; refine r_faR ?_; refine r_ldIQ (v := .int .i64 (r0.nxt.nxt.n : Nat)) ?_; refine r_stF _ ?_; refine r_mv ?_; refine r_mv ?_; refine reg_end (env' := [_, _, ⟨_, (.int _ _)⟩, ⟨_, (.int _ _)⟩, _, _, _, _, _, _, _, _, _, _, _, _, _, _, _, _, _, _, _, _, _, _, _, _, _, _]) ?_; refine wp_retseq ?_
        refine res_of trivial q2 q3 (Eq.trans q7 (tup_eq3 ?_ (congrArg (D.int .i64) ?_) (congrArg (D.int .i64) ?_)))
        all_goals
          have hpp : parseX s = (lckZ, 2, ((r0.nxt.nxt.n : Nat) : Int)) := by
            rw [hn2]
            simp only [parseX, hr0]
            rw [if_neg (by omega)]
            rw [if_neg (fun h => h.elim (fun h => by rw [hc1.1] at h; cases h) (fun h => h hc1.2)), if_pos hc2]
            rfl
          first | (rw [hpp]; done) | (rw [hpp]; rfl)
      · simp only [Bool.or_eq_false_iff, Bool.not_eq_false', Bool.not_eq_eq_eq_not, Bool.not_false] at hc2
        refine wp_skipseq ?_; refine wp_regseq ?_; refine r_ldB ?_; refine r_build _ ?_; refine r_box ?_; refine r_stF _ ?_; refine reg_end (env' := [_, _, _, _, _, _, _, _, _, _, _, _, _, _, _, _, _, _, _, _, _, _, _, _, _, ⟨_, _⟩, _, _, _, _]) ?_
        have hpx : parseX s = parseL (envR r0.nxt.ln.1) (s.length + 1) r0.nxt.nxt [] := by
          simp only [parseX, hr0]
          rw [if_neg (by omega), if_neg (fun h => h.elim (fun h => by rw [hc1.1] at h; cases h) (fun h => h hc1.2)), if_neg (fun h => h.elim (fun h => by rw [hc2.1] at h; cases h) (fun h => by rw [hc2.2] at h; cases h))]
        refine wp_forL hm (ι := (Nat × Rdr × List Lkd)) (fun p => [⟨true, .str s⟩, ⟨true, .ptr 0 4 0 0⟩, .un, .un, .un, ⟨true, .ptr 8 3 0 0⟩, .un, .un, .un, .un, .un, .un, .un, .un, .un, .un, .un, .un, .un, .un, .un, .un, .un, .un, .un, ⟨true, .ptr 46 4 0 0⟩, .un, .un, .un, .un]) (fun p => [(0, .buf 4 [.agg [.str [], .str [], .str [], .nils]]), (8, .buf 3 [Rdr.D p.2.1]), (46, .buf 4 [.agg [.str (envR r0.nxt.ln.1).e0, .str (envR r0.nxt.ln.1).e1, .str (envR r0.nxt.ln.1).e2, .own 1 9 0 p.2.2.length]]), (1, .buf 9 (p.2.2.map Lkd.D))]) 48 (fun p => p.2.1.s = s ∧ p.2.1.at' ≤ s.length ∧ p.2.1.n ≤ p.2.1.at' + 3 ∧ s.length + 1 ≤ p.1 + p.2.1.at' ∧ p.2.2.length ≤ 48 ∧ parseX s = parseL (envR r0.nxt.ln.1) p.1 p.2.1 p.2.2) (fun p => p.1) (s.length + 1, r0.nxt.nxt, []) ⟨hs2, by rw [hs2] at hle2; exact hle2, by simp only; omega, by simp only; omega, by simp, hpx⟩ (Ghost.to [(0, 0), (8, 8), (46, 46)] q7 q7 q6 (by (first | refine RnM.idn q7 q7 q5 ?_ | refine RnM.ide q7 q7 q7 ?_ | refine RnM.idi q7 q7 q7 q7 ?_); (first | refine RnM.idn q7 q7 q5 ?_ | refine RnM.ide q7 q7 q7 ?_ | refine RnM.idi q7 q7 q7 q7 ?_); refine RnM.ni 46 q7 q7 (by exact ⟨_, _, rfl, ⟨_, rfl, ⟨_, _, rfl, ⟨rfl, rfl⟩, ⟨_, _, rfl, ⟨rfl, rfl⟩, ⟨_, _, rfl, ⟨rfl, rfl⟩, ⟨_, _, rfl, Or.inr ⟨_, _, _, rfl⟩, rfl⟩⟩⟩⟩⟩, rfl⟩) ?_; refine RnM.mt q7 q7 q7 q7 ?_; exact RnM.nil)) ?_
        rintro ⟨fu, r, ls⟩ ⟨hs, hat, hn, hfu, hls, hr⟩
        dsimp only at hs hat hn hfu hls hr ⊢
        obtain ⟨f, rfl⟩ : ∃ f, fu = f + 1 := ⟨fu - 1, by omega⟩
        have hnx := Rdr.nxt_le r (by rw [hs]; exact hat)
        refine wp_blockL ?_ hm
        refine wp_regseq ?_; refine r_mv ?_; refine r_nilP ?_; refine r_faP ?_; refine r_ldF (v := (.int _ _)) ?_; refine r_mv ?_; refine reg_end (env' := [_, _, _, _, _, _, _, _, _, _, _, _, _, _, _, _, _, _, _, _, _, _, _, ⟨_, (.int _ _)⟩, _, _, _, _, _, _]) ?_; refine wp_regseq ?_; refine r_mv ?_; refine r_callF (hc := h545 r (by rw [hs]; exact hat) (by rw [hs]; omega) (by omega)) ?_; refine r_mv ?_; refine r_ext (.str _) ?_; refine r_ext (.bool _) ?_; refine r_mv ?_; refine r_mv ?_; refine reg_end (env' := [_, _, _, _, _, _, _, _, _, _, _, _, _, _, ⟨_, (.str _)⟩, _, ⟨_, (.bool _)⟩, _, _, _, _, _, _, _, _, _, _, _, _, _]) ?_
        have htl : r.ln.1.length ≤ 8192 := by
          have := (cutL_len (r.s.drop r.at') 10).1
          rw [List.length_drop] at this
          have h9 : r.ln.1.length ≤ r.s.length - r.at' := this
          rw [hs] at h9
          omega
        have hnn : r.nxt.n = r.n + 1 := rfl
        have hns : r.nxt.s = s := hs
        have hcl := cutPre_len r.ln.1 sumW
        refine wp_assoc ?_; refine wp_regseq ?_; refine r_mv ?_; refine r_call (hc := h254 r.ln.1 sumW (by omega) (by simp [sumW])) ?_; refine r_mv ?_; refine r_ext (.str _) ?_; refine r_ext (.bool _) ?_; refine r_mv ?_; refine r_mv ?_; refine reg_end (env' := [_, _, _, _, _, _, _, _, _, _, _, _, _, _, _, ⟨_, (.bool _)⟩, _, ⟨_, (.str _)⟩, _, _, _, _, _, _, _, _, _, _, _, _]) ?_; refine wp_assoc ?_; refine wp_regseq ?_; refine r_mv ?_; refine r_mv ?_; refine r_mv ?_; refine r_and ?_; refine r_mv ?_; refine r_mv ?_
        refine r_callG (hc := fun _ => h491 (cutPre r.ln.1 sumW).1 32 (by omega)) ?_
        refine r_not ?_; refine r_and ?_; refine reg_end (env' := [_, _, _, _, _, _, _, _, _, _, _, _, _, _, _, _, _, _, ⟨_, (.bool _)⟩, _, _, _, _, _, _, _, _, _, _, _]) ?_
        refine wp_condseq (fun hc3 => ?_) (fun hc3 => ?_)
        · skip
          refine wp_assoc ?_; refine wp_regseq ?_; refine r_mv ?_; refine r_call (hc := h499 (cutPre r.ln.1 sumW).1) ?_; refine r_mv ?_; refine r_ext (.int _ _) ?_; refine r_ext (.bool _) ?_; refine r_mv ?_; refine r_mv ?_; refine reg_end (env' := [_, _, _, _, _, _, _, _, _, _, _, _, _, _, _, _, _, _, _, ⟨_, (.bool _)⟩, _, _, ⟨_, (.int _ _)⟩, _, _, _, _, _, _, _]) ?_; refine wp_assoc ?_
          refine wp_blockseq ?_ hm
          refine wp_regseq ?_; refine r_mv ?_; refine r_not ?_; refine r_mv ?_; refine reg_end (env' := [_, _, _, _, _, _, _, _, _, _, _, _, _, _, _, _, _, _, _, _, ⟨_, (.bool _)⟩, _, _, _, _, _, _, _, _, _]) ?_
          refine wp_cond (fun hc4 => ?_) (fun hc4 => ?_)
          · try simp only [b0, b1, b2, b3, b4, b5, b6, b7, b8, b9, b10, b11] at hc4
            refine wp_fz 8 ?_; refine wp_regseq ?_; refine r_build _ ?_; refine r_mv ?_; refine r_nilR ?_; refine r_faR ?_; refine r_ldIQ (v := .int .i64 (r.nxt.n : Nat)) ?_; refine r_stF _ ?_; refine r_mv ?_; refine r_mv ?_; refine reg_end (env' := [_, _, ⟨_, (.int _ _)⟩, ⟨_, (.int _ _)⟩, _, _, _, _, _, _, _, _, _, _, _, _, _, _, _, _, _, _, _, _, _, _, _, _, _, _]) ?_; refine wp_ret ?_; refine BQ.ret ?_
            refine BQ0.ret ?_
            refine LQ0.ret ?_
            refine res_of trivial q2 q3 (Eq.trans q7 (tup_eq3 ?_ (congrArg (D.int .i64) ?_) (congrArg (D.int .i64) ?_)))
            all_goals
              have hpp : parseX s = (lckZ, 2, ((r.nxt.n : Nat) : Int)) := by
                rw [hr]; exact parseL_sum1 hc3 hc4
              first | (rw [hpp]; done) | (rw [hpp]; rfl)
          · try simp only [b0, b1, b2, b3, b4, b5, b6, b7, b8, b9, b10, b11] at hc4
            refine wp_regseq ?_; refine r_mv ?_; refine r_nilP ?_; refine r_faP ?_; refine r_ldF (v := (.int _ _)) ?_; refine r_mv ?_
            refine r_lenS fun hlR19_5 => ?_; replace hlR19_5 := hlR19_5 rfl rfl
            refine r_lssI ?_; refine r_mv ?_; refine reg_end (env' := [_, _, _, _, _, _, _, _, _, _, _, _, _, _, _, _, _, _, _, _, _, ⟨_, (.bool _)⟩, _, _, _, _, _, _, _, _]) ?_
            refine wp_cond (fun hc5 => ?_) (fun hc5 => ?_)
            · try simp only [b0, b1, b2, b3, b4, b5, b6, b7, b8, b9, b10, b11] at hc5
              refine wp_fz 8 ?_; refine wp_regseq ?_; refine r_build _ ?_; refine r_mv ?_; refine r_nilR ?_; refine r_faR ?_; refine r_ldIQ (v := .int .i64 (r.nxt.n : Nat)) ?_; refine r_add64 ?_; refine r_stF _ ?_; refine r_mv ?_; refine r_mv ?_; refine reg_end (env' := [_, _, ⟨_, (.int _ _)⟩, ⟨_, (.int _ _)⟩, _, _, _, _, _, _, _, _, _, _, _, _, _, _, _, _, _, _, _, _, _, _, _, _, _, _]) ?_; refine wp_ret ?_; refine BQ.ret ?_
              refine BQ0.ret ?_
              refine LQ0.ret ?_
              refine res_of trivial q2 q3 (Eq.trans q7 (tup_eq3 ?_ (congrArg (D.int .i64) ?_) (congrArg (D.int .i64) ?_)))
              all_goals
                have hpp : parseX s = (lckZ, 2, ((r.nxt.n : Nat) : Int) + 1) := by
                  rw [hr]; exact parseL_sum2 hc3 hc4 (by rw [hs]; omega)
                first | (rw [hpp]; done) | (rw [hpp]; rfl)
            · try simp only [b0, b1, b2, b3, b4, b5, b6, b7, b8, b9, b10, b11] at hc5
              refine wp_regseq ?_; refine r_mv ?_; refine r_mv ?_; refine r_mv ?_
              refine r_slS_hi r.at' (hj := fun _ => rfl) ?_
              refine r_s2b ?_
              refine r_call (hc := h220 (s.take r.at')) (ha := fun _ => congrArg (fun d => [d]) (xV_own1 (q := fun b : UInt8 => D.int .u8 b.toNat) (fun _ => rfl) q7)) (hp := fun _ => ⟨xVO_own1 (q := fun b : UInt8 => D.int .u8 b.toNat) (fun _ => rfl) q7, trivial⟩) ?_
              refine r_neqI ?_; refine r_mv ?_; refine reg_end (env' := [_, _, _, _, _, _, _, _, _, _, _, _, _, _, _, _, _, _, _, _, _, _, _, _, ⟨_, (.bool _)⟩, _, _, _, _, _]) ?_
              refine wp_cond (fun hc6 => ?_) (fun hc6 => ?_)
              · try simp only [b0, b1, b2, b3, b4, b5, b6, b7, b8, b9, b10, b11] at hc6
                refine wp_regseq ?_; refine r_build _ ?_; refine r_stF _ ?_; refine r_mv ?_; refine r_mv ?_; refine reg_end (env' := [_, _, ⟨_, (.int _ _)⟩, ⟨_, (.int _ _)⟩, _, _, _, _, _, _, _, _, _, _, _, _, _, _, _, _, _, _, _, _, _, _, _, _, _, _]) ?_; refine wp_ret ?_; refine BQ.ret ?_
                refine BQ0.ret ?_
                refine LQ0.ret ?_
                refine res_of trivial q2 q3 (Eq.trans q7 (tup_eq3 ?_ (congrArg (D.int .i64) ?_) (congrArg (D.int .i64) ?_)))
                all_goals
                  have hpp : parseX s = (lckZ, 13, 0) := by
                    rw [hr]; exact parseL_sum3 hc3 hc4 (by rw [hs]; omega) (by rw [hs]; exact hc6)
                  first | (rw [hpp]; done) | (rw [hpp]; rfl)
              · try simp only [b0, b1, b2, b3, b4, b5, b6, b7, b8, b9, b10, b11] at hc6
                refine wp_skip ?_; refine BQ.normal ?_; refine wp_assoc ?_; refine wp_fz 1 ?_; refine wp_regseq ?_; refine r_ldB ?_; refine r_stF _ ?_; refine r_mv ?_; refine r_mv ?_; refine reg_end (env' := [_, _, ⟨_, (.int _ _)⟩, ⟨_, (.int _ _)⟩, _, _, _, _, _, _, _, _, _, _, _, _, _, _, _, _, _, _, _, _, _, _, _, _, _, _]) ?_; refine wp_retseq ?_
                refine BQ0.ret ?_
                refine LQ0.ret ?_
                refine res_of trivial q2 q3 (Eq.trans q7 (tup_eq3 ?_ (congrArg (D.int .i64) ?_) (congrArg (D.int .i64) ?_)))
                all_goals
                  have hpp : parseX s = (⟨envR r0.nxt.ln.1, ls⟩, 0, 0) := by
                    rw [hr]; exact parseL_sum4 hc3 hc4 (by rw [hs]; omega) (by rw [hs]; exact hc6)
                  first | (rw [hpp]; done) | (rw [hpp]; rfl)
        · skip
          refine wp_skipseq ?_; refine wp_regseq ?_; refine r_mv ?_; refine r_call (hc := h547 r.ln.1 htl) ?_; refine r_mv ?_; refine r_ext (Lkd.D _) ?_; refine r_ext (.bool _) ?_; refine r_box ?_; refine r_stF _ ?_; refine r_mv ?_; refine reg_end (env' := [_, _, _, _, _, _, _, _, _, _, _, _, _, _, _, _, _, _, _, _, _, _, _, _, _, _, ⟨_, (.bool _)⟩, _, ⟨_, _⟩, _]) ?_; refine wp_assoc ?_; refine wp_regseq ?_; refine r_faP ?_
          first | refine r_ldF (v := .sl _ _) ?_ | refine r_ldF (v := .own _ _ _ _) ?_ | refine r_ldF (v := .nils) ?_
          refine r_lenO fun hlR25_2 => ?_; replace hlR25_2 := hlR25_2 rfl rfl
          refine r_mv ?_; refine reg_end (env' := [_, _, _, _, _, _, _, _, _, _, _, _, _, _, _, _, _, _, _, _, _, _, _, _, _, _, _, ⟨_, (.int _ _)⟩, _, _]) ?_; refine wp_assoc ?_; refine wp_regseq ?_; refine r_mv ?_; refine r_not ?_; refine r_mv ?_; refine r_mv ?_; refine r_not ?_; refine r_or ?_; refine r_mv ?_; refine r_mv ?_; refine r_geqI ?_; refine r_or ?_; refine r_mv ?_; refine r_mv ?_; refine r_gtrI ?_; refine r_mv ?_; refine r_faP ?_
          first | refine r_ldF (v := .sl _ _) ?_ | refine r_ldF (v := .own _ _ _ _) ?_ | refine r_ldF (v := .nils) ?_
          refine r_mv ?_; refine r_sub64 ?_; refine r_iaO (ls.length - 1) ?_; refine r_faP ?_; refine r_ldM (v := (.str _)) ?_; refine r_faP ?_; refine r_ldF (v := (.str _)) ?_; refine r_geqS ?_; refine r_and ?_; refine r_or ?_; refine reg_end (env' := [_, _, _, _, _, _, _, _, _, _, _, _, _, _, _, _, _, _, _, _, _, _, _, _, _, _, _, _, _, ⟨_, (.bool _)⟩]) ?_
          refine wp_condseq (fun hc7 => ?_) (fun hc7 => ?_)
          · rw [stopB_eq] at hc7
            refine wp_assoc ?_; refine wp_fz 8 ?_; refine wp_regseq ?_; refine r_build _ ?_; refine r_mv ?_; refine r_nilR ?_; refine r_faR ?_; refine r_ldIQ (v := .int .i64 (r.nxt.n : Nat)) ?_; refine r_stF _ ?_; refine r_mv ?_; refine r_mv ?_; refine reg_end (env' := [_, _, ⟨_, (.int _ _)⟩, ⟨_, (.int _ _)⟩, _, _, _, _, _, _, _, _, _, _, _, _, _, _, _, _, _, _, _, _, _, _, _, _, _, _]) ?_; refine wp_retseq ?_
            refine BQ0.ret ?_
            refine LQ0.ret ?_
            refine res_of trivial q2 q3 (Eq.trans q7 (tup_eq3 ?_ (congrArg (D.int .i64) ?_) (congrArg (D.int .i64) ?_)))
            all_goals
              have hpp : parseX s = (lckZ, 2, ((r.nxt.n : Nat) : Int)) := by
                rw [hr]; exact parseL_stop hc3 hc7
              first | (rw [hpp]; done) | (rw [hpp]; rfl)
          · rw [stopB_eq] at hc7
            refine wp_skipseq ?_; refine wp_reg ?_; refine r_faP ?_
            first | refine r_ldF (v := .sl _ _) ?_ | refine r_ldF (v := .own _ _ _ _) ?_ | refine r_ldF (v := .nils) ?_
            refine r_ldB ?_; refine r_bsl [(Lkd.D _)] ?_; refine r_app1 ?_; refine r_faP ?_; refine r_stF _ (he := by exact rfl) ?_; refine reg_fin (env' := [_, _, _, _, _, _, _, _, _, _, _, _, _, _, _, _, _, _, _, _, _, _, _, _, _, _, _, _, _, _]) ?_
            refine BQ0.normal ?_
            refine LQ0.normal ?_
            have hnext : parseX s = parseL (envR r0.nxt.ln.1) f r.nxt (ls ++ [lkdR r.ln.1]) := by
              rw [hr]; exact parseL_next hc3 hc7
            have hst := stopB_false hc7
            have hat2 := hnx.2 hst.1
            have hl48 := hst.2.1
            exact ⟨(f, r.nxt, ls ++ [lkdR r.ln.1]), ⟨hns, by rw [← hns]; exact hnx.1, by dsimp only; omega, by dsimp only; omega, by simp only [List.length_append, List.length_cons, List.length_nil]; omega, hnext⟩, by dsimp only; omega, (Ghost.to [(0, 0), (8, 8), (46, 46), (118, 1)] q7 q7 q6 (by (first | refine RnM.idn q7 q7 q5 ?_ | refine RnM.ide q7 q7 q7 ?_ | refine RnM.idi q7 q7 q7 q7 ?_); (first | refine RnM.idn q7 q7 q5 ?_ | refine RnM.ide q7 q7 q7 ?_ | refine RnM.idi q7 q7 q7 q7 ?_); (first | refine RnM.idn q7 q7 q5 ?_ | refine RnM.ide q7 q7 q7 ?_ | refine RnM.idi q7 q7 q7 q7 ?_); refine RnM.nl 118 q7 q7 rfl (by exact noLocs_map (fun _ => rfl) _) ?_; exact RnM.nil))⟩
def C309 (Γ : Ctx) : Prop := ∀ (s : Str), (s.length ≤ 1048576) → Γ.pre 309 [.str s] ∧ Γ.val 309 [.str s] = .tup [Lck.D (parseX s).1, .int .i64 (parseX s).2.1, .int .i64 (parseX s).2.2]
end Go.Abs
end
section
namespace Go.Abs
open Go
/-- linchpin/lock.Find$1 -/
def lock_Find_1 : AFunc := { np := 2, ns := 4, res := [⟨2, none⟩], rsh := [[.a]], body := (.seq (.reg false [⟨.box 9 (.s 0), none⟩, ⟨.mv (.c (.bool false)), none⟩] [(3, 0), (2, 1)]) (.seq (.reg false [⟨.fa 0 (.s 3), none⟩, ⟨.ld 1 false (.l 0), none⟩, ⟨.ld 1 false (.s 1), none⟩, ⟨.bin .eql (.l 1) (.l 2), none⟩, ⟨.mv (.l 3), none⟩] [(2, 4)]) .ret)) }
theorem w529 {Γ : Ctx} (hm : (Γ.at 0).Mono)  (x : Lkd) (nm : Str)  : wpA (Γ.at 0) lock_Find_1.body (Res lock_Find_1 (.bool (decide (x.name = nm))) : Ex → List Ent → St → Prop) (env0 lock_Find_1 [Lkd.D x, .ref 1 [.str nm] 0 0]) ⟨0, []⟩ := by
  show wpA _ _ _ [⟨true, Lkd.D x⟩, ⟨true, .ref 1 [.str nm] 0 0⟩, .un, .un] ⟨0, []⟩
  refine wp_regseq ?_; refine r_box ?_; refine r_mv ?_; refine reg_end (env' := [_, _, ⟨_, (.bool _)⟩, ⟨_, _⟩]) ?_; refine wp_regseq ?_; refine r_faP ?_; refine r_ldF (v := (.str _)) ?_; refine r_ldQ (v := .str nm) ?_; refine r_eqlS ?_; refine r_mv ?_; refine reg_end (env' := [_, _, ⟨_, (.bool _)⟩, _]) ?_; refine wp_ret ?_
  refine res_of trivial q2 q3 (Eq.trans q7 (congrArg D.bool ?_))
  rfl
def C529 (Γ : Ctx) : Prop := ∀ (x : Lkd) (nm : Str), Γ.pre 529 [Lkd.D x, .ref 1 [.str nm] 0 0] ∧ Γ.val 529 [Lkd.D x, .ref 1 [.str nm] 0 0] = .bool (decide (x.name = nm))
/-- slices.IndexFunc[[]linchpin/api.Locked,linchpin/api.Locked] -/
def slices_IndexFunc : AFunc := { np := 2, ns := 8, res := [⟨2, none⟩], rsh := [[.a]], body := (.seq (.reg false [⟨.mv (.c (.int .i64 0)), none⟩] [(2, 0)]) (.seq (.seq (.reg false [⟨.mv (.s 0), none⟩, ⟨.len (.l 0), none⟩, ⟨.mv (.c (.int .i64 0)), none⟩] [(4, 1), (3, 2)]) (.block 0 (.loop (.seq (.reg false [⟨.bin .lss (.s 3) (.s 4), none⟩] [(5, 0)]) (.seq (.cond (.s 5) .skip (.exit 0)) (.seq (.block 1 (.seq (.reg false [⟨.mv (.s 3), none⟩, ⟨.mv (.l 0), none⟩] [(6, 1)]) (.seq (.reg false [⟨.mv (.s 1), none⟩, ⟨.mv (.s 0), none⟩, ⟨.mv (.s 6), none⟩, ⟨.ia 9 (.l 1) (.l 2), none⟩, ⟨.ld 9 true (.l 3), none⟩, ⟨.callv (.l 0) [(.l 4)] [[.a, .a, .a, .a, .a, .a, .a, .a, .sl 1 [.a]]], none⟩] [(7, 5)]) (.cond (.s 7) (.seq (.reg false [⟨.mv (.s 6), none⟩, ⟨.mv (.l 0), none⟩] [(2, 1)]) .ret) .skip)))) (.reg false [⟨.bin .add (.s 3) (.c (.int .i64 1)), none⟩, ⟨.mv (.l 0), none⟩] [(3, 1)]))))))) (.seq (.reg false [⟨.mv (.c (.int .i64 (-1))), none⟩] [(2, 0)]) .ret))) }
theorem w528 {Γ : Ctx} (hm : (Γ.at 0).Mono) (h529 : C529 (Γ.at 0)) (l : List Lkd) (nm : Str)  : wpA (Γ.at 0) slices_IndexFunc.body (Res slices_IndexFunc (.int .i64 (findI l nm 0)) : Ex → List Ent → St → Prop) (env0 slices_IndexFunc [.sl 9 (l.map Lkd.D), .fn 529 [.ref 1 [.str nm] 0 0]]) ⟨0, []⟩ := by
  show wpA _ _ _ [⟨true, .sl 9 (l.map Lkd.D)⟩, ⟨true, .fn 529 [.ref 1 [.str nm] 0 0]⟩, .un, .un, .un, .un, .un, .un] ⟨0, []⟩
  refine wp_regseq ?_; refine r_mv ?_; refine reg_end (env' := [_, _, ⟨_, (.int _ _)⟩, _, _, _, _, _]) ?_; refine wp_assoc ?_; refine wp_regseq ?_; refine r_mv ?_
  refine r_lenM fun hlR1_1 => ?_; replace hlR1_1 := hlR1_1 rfl rfl
  refine r_mv ?_; refine reg_end (env' := [_, _, _, ⟨_, (.int _ _)⟩, ⟨_, (.int _ _)⟩, _, _, _]) ?_
  refine wp_for hm (ι := Nat) (fun i => [⟨true, .sl 9 (l.map Lkd.D)⟩, ⟨true, .fn 529 [.ref 1 [.str nm] 0 0]⟩, .un, ⟨true, .int .i64 (i : Nat)⟩, ⟨true, .int .i64 (l.length : Nat)⟩, .un, .un, .un]) (fun i => []) 4 (fun i => i ≤ l.length ∧ findI l nm 0 = findI l nm i) (fun i => l.length - i) 0 ⟨by omega, rfl⟩ (Ghost.to [] q7 q7 q4 q1) ?_
  rintro i ⟨hi, hr⟩
  refine wp_regseq ?_; refine r_lssI ?_; refine reg_end (env' := [_, _, _, _, _, ⟨_, (.bool _)⟩, _, _]) ?_
  refine wp_condseq (fun hc0 => ?_) (fun hc0 => ?_)
  · try simp only [b0, b1, b2, b3, b4, b5, b6, b7, b8, b9, b10, b11] at hc0
    refine wp_skipseq ?_
    refine wp_blockseq ?_ hm
    refine wp_regseq ?_; refine r_mv ?_; refine r_mv ?_; refine reg_end (env' := [_, _, _, _, _, _, ⟨_, (.int _ _)⟩, _]) ?_; refine wp_regseq ?_; refine r_mv ?_; refine r_mv ?_; refine r_mv ?_
    first | refine r_iaM _ ?_ | refine r_iaMT ?_
    first | refine r_ldR (v := (Lkd.D _)) ?_ | refine r_ldQ (v := (Lkd.D _)) ?_
    refine r_callv (hc := fun _ => h529 l[i]! nm) ?_
    refine reg_end (env' := [_, _, _, _, _, _, _, ⟨_, (.bool _)⟩]) ?_
    refine wp_cond (fun hc1 => ?_) (fun hc1 => ?_)
    · try simp only [b0, b1, b2, b3, b4, b5, b6, b7, b8, b9, b10, b11] at hc1
      refine wp_regseq ?_; refine r_mv ?_; refine r_mv ?_; refine reg_end (env' := [_, _, ⟨_, (.int _ _)⟩, _, _, _, _, _]) ?_; refine wp_ret ?_; refine BQ.ret ?_; refine LQ.ret ?_
      refine res_of trivial q2 q3 (Eq.trans q7 (congrArg (D.int .i64) ?_))
      rw [hr, findI_eq (by omega) hc1]
    · try simp only [b0, b1, b2, b3, b4, b5, b6, b7, b8, b9, b10, b11] at hc1
      refine wp_skip ?_; refine BQ.normal ?_; refine wp_reg ?_; refine r_add64 ?_; refine r_mv ?_; refine reg_fin (env' := [_, _, _, ⟨_, (.int _ _)⟩, _, _, _, _]) ?_; refine LQ.normal ?_
      exact ⟨i + 1, ⟨by omega, by rw [hr, findI_ne (by omega) hc1]⟩, by omega, (Ghost.to [] q7 q7 q4 q1)⟩
  · try simp only [b0, b1, b2, b3, b4, b5, b6, b7, b8, b9, b10, b11] at hc0
    refine wp_exitseq ?_; refine LQ.out ?_; refine wp_regseq ?_; refine r_mv ?_; refine reg_end (env' := [_, _, ⟨_, (.int _ _)⟩, _, _, _, _, _]) ?_; refine wp_ret ?_
    refine res_of trivial q2 q3 (Eq.trans q7 (congrArg (D.int .i64) ?_))
    rw [hr, findI_end (by omega)]
def C528 (Γ : Ctx) : Prop := ∀ (l : List Lkd) (nm : Str), Γ.pre 528 [.sl 9 (l.map Lkd.D), .fn 529 [.ref 1 [.str nm] 0 0]] ∧ Γ.val 528 [.sl 9 (l.map Lkd.D), .fn 529 [.ref 1 [.str nm] 0 0]] = .int .i64 (findI l nm 0)
/-- linchpin/lock.Find -/
def lock_Find : AFunc := { np := 2, ns := 5, res := [⟨2, none⟩], rsh := [[.a]], body := (.seq (.reg false [⟨.box 4 (.s 0), none⟩, ⟨.box 1 (.s 1), none⟩, ⟨.mv (.c (.int .i64 0)), none⟩] [(3, 0), (4, 1), (2, 2)]) (.seq (.reg false [⟨.fa 3 (.s 3), none⟩, ⟨.ld 1 false (.l 0), none⟩, ⟨.mkf 529 [(.s 4)], none⟩, ⟨.call 528 [(.l 1), (.l 2)] [[.sl 9 [.a, .a, .a, .a, .a, .a, .a, .a, .sl 1 [.a]]], [.a]], none⟩, ⟨.mv (.l 3), none⟩] [(2, 4)]) .ret)) }
theorem w294 {Γ : Ctx} (hm : (Γ.at 0).Mono) (h528 : C528 (Γ.at 0)) (l : Lck) (nm : Str)  : wpA (Γ.at 0) lock_Find.body (Res lock_Find (.int .i64 (findI l.lines nm 0)) : Ex → List Ent → St → Prop) (env0 lock_Find [Lck.D l, .str nm]) ⟨0, []⟩ := by
  show wpA _ _ _ [⟨true, Lck.D l⟩, ⟨true, .str nm⟩, .un, .un, .un] ⟨0, []⟩
  refine wp_regseq ?_; refine r_box ?_; refine r_box ?_; refine r_mv ?_; refine reg_end (env' := [_, _, ⟨_, (.int _ _)⟩, ⟨_, _⟩, ⟨_, _⟩]) ?_; refine wp_fz 1 ?_; refine wp_regseq ?_; refine r_faP ?_
  first | refine r_ldF (v := .sl _ _) ?_ | refine r_ldF (v := .own _ _ _ _) ?_ | refine r_ldF (v := .nils) ?_
  refine r_mkf [.ref 1 [.str nm] 0 0] ?_; refine r_call (hc := h528 l.lines nm) ?_; refine r_mv ?_; refine reg_end (env' := [_, _, ⟨_, (.int _ _)⟩, _, _]) ?_; refine wp_ret ?_
  refine res_of trivial q2 q3 (Eq.trans q7 (congrArg (D.int .i64) ?_))
  rfl
def C294 (Γ : Ctx) : Prop := ∀ (l : Lck) (nm : Str), Γ.pre 294 [Lck.D l, .str nm] ∧ Γ.val 294 [Lck.D l, .str nm] = .int .i64 (findI l.lines nm 0)
end Go.Abs
end
section
namespace Go.Abs
open Go
/-- linchpin/linchpinmade.Names -/
def made_Names : AFunc := { np := 0, ns := 1, res := [⟨0, none⟩], rsh := [[.sl 1 [.a]]], body := (.seq (.reg false [⟨.mv (.c (.nils)), none⟩] [(0, 0)]) (.seq (.reg false [⟨.bsl 1 (.str []) 4 [(0, (.c (.str [97, 110, 116]))), (1, (.c (.str [98, 101, 101]))), (2, (.c (.str [99, 111, 119]))), (3, (.c (.str [100, 111, 103])))], none⟩, ⟨.mv (.l 0), none⟩] [(0, 1)]) .ret)) }
theorem w111 {Γ : Ctx} (hm : (Γ.at 0).Mono)    : wpA (Γ.at 0) made_Names.body (Res made_Names (.sl 1 (namesM.map D.str)) : Ex → List Ent → St → Prop) (env0 made_Names []) ⟨0, []⟩ := by
  show wpA _ _ _ [.un] ⟨0, []⟩
  refine wp_regseq ?_; refine r_mv ?_; refine reg_end (env' := [⟨_, .nils⟩]) ?_; refine wp_regseq ?_; refine r_bsl (namesM.map D.str) ?_; refine r_mv ?_; refine reg_end (env' := [⟨_, (.own _ _ _ _)⟩]) ?_; refine wp_fz 1 ?_; refine wp_ret ?_
  refine res_of trivial q2 q3 (Eq.trans q7 (?_))
  rfl
def C111 (Γ : Ctx) : Prop := Γ.pre 111 [] ∧ Γ.val 111 [] = .sl 1 (namesM.map D.str)
/-- linchpin/linchpinmade.Versions -/
def made_Versions : AFunc := { np := 0, ns := 1, res := [⟨0, none⟩], rsh := [[.sl 5 [.a, .a, .a, .a, .a]]], body := (.seq (.reg false [⟨.mv (.c (.nils)), none⟩] [(0, 0)]) (.seq (.reg false [⟨.build [.int .i64 0, .int .i64 0, .int .i64 0, .str [], .str []] [(0, 1, (.c (.int .i64 1)))], none⟩, ⟨.build [.int .i64 0, .int .i64 0, .int .i64 0, .str [], .str []] [(0, 1, (.c (.int .i64 1))), (1, 1, (.c (.int .i64 2)))], none⟩, ⟨.build [.int .i64 0, .int .i64 0, .int .i64 0, .str [], .str []] [(0, 1, (.c (.int .i64 2))), (3, 1, (.c (.str [97, 46, 49])))], none⟩, ⟨.build [.int .i64 0, .int .i64 0, .int .i64 0, .str [], .str []] [(0, 1, (.c (.int .i64 2)))], none⟩, ⟨.bsl 5 (.agg [.int .i64 0, .int .i64 0, .int .i64 0, .str [], .str []]) 4 [(0, (.l 0)), (1, (.l 1)), (2, (.l 2)), (3, (.l 3))], none⟩, ⟨.mv (.l 4), none⟩] [(0, 5)]) .ret)) }
theorem w112 {Γ : Ctx} (hm : (Γ.at 0).Mono)    : wpA (Γ.at 0) made_Versions.body (Res made_Versions (.sl 5 (versM.map Ver.D)) : Ex → List Ent → St → Prop) (env0 made_Versions []) ⟨0, []⟩ := by
  show wpA _ _ _ [.un] ⟨0, []⟩
  refine wp_regseq ?_; refine r_mv ?_; refine reg_end (env' := [⟨_, .nils⟩]) ?_; refine wp_regseq ?_; refine r_build _ ?_; refine r_build _ ?_; refine r_build _ ?_; refine r_build _ ?_; refine r_bsl (versM.map Ver.D) ?_; refine r_mv ?_; refine reg_end (env' := [⟨_, (.own _ _ _ _)⟩]) ?_; refine wp_fz 5 ?_; refine wp_ret ?_
  refine res_of trivial q2 q3 (Eq.trans q7 (?_))
  rfl
def C112 (Γ : Ctx) : Prop := Γ.pre 112 [] ∧ Γ.val 112 [] = .sl 5 (versM.map Ver.D)
/-- linchpin/linchpinmade.Env -/
def made_Env : AFunc := { np := 1, ns := 3, res := [⟨1, some (3, true)⟩], rsh := [[.a, .a, .a]], body := (.seq (.reg false [⟨.box 3 (.c (.agg [.str [], .str [], .str []])), none⟩] [(1, 0)]) (.seq (.reg false [⟨.box 3 (.c (.agg [.str [], .str [], .str []])), none⟩] [(2, 0)]) (.seq (.reg false [⟨.bsl 1 (.str []) 3 [(0, (.c (.str []))), (1, (.c (.str [108, 105, 110, 117, 120]))), (2, (.c (.str [112, 108, 97, 110, 57])))], none⟩, ⟨.mv (.s 0), none⟩, ⟨.call 25 [(.l 1), (.c (.int .i64 3))] [[.a], [.a]], none⟩, ⟨.ia 1 (.l 0) (.l 2), none⟩, ⟨.ld 1 false (.l 3), none⟩, ⟨.fa 0 (.s 2), none⟩, ⟨.iaP 3 1 (.l 5) (.c (.int .i64 0)), none⟩, ⟨.st 1 (.l 6) (.l 4), none⟩] []) (.seq (.reg false [⟨.ld 3 true (.s 2), none⟩, ⟨.st 3 (.s 1) (.l 0), none⟩] []) .ret)))) }
theorem w29 {Γ : Ctx} (hm : (Γ.at 0).Mono) (h25 : C25 (Γ.at 0)) (n : Int)  : wpA (Γ.at 0) made_Env.body (Res made_Env (Env.D (envM n)) : Ex → List Ent → St → Prop) (env0 made_Env [.int .i64 n]) ⟨0, []⟩ := by
  show wpA _ _ _ [⟨true, .int .i64 n⟩, .un, .un] ⟨0, []⟩
  refine wp_regseq ?_; refine r_box ?_; refine reg_end (env' := [_, ⟨_, _⟩, _]) ?_; refine wp_regseq ?_; refine r_box ?_; refine reg_end (env' := [_, _, ⟨_, _⟩]) ?_; refine wp_regseq ?_
  have hpl := placeI_range n 3 (by omega)
  refine r_bsl (envsM.map D.str) ?_; refine r_mv ?_; refine r_call (hc := h25 n 3 (by omega)) ?_
  refine r_iaO (placeI n 3).toNat (hj := fun _ => by omega) (hb := fun _ => by omega) ?_
  rw [Nat.zero_add]; refine r_ldM (v := .str envsM[(placeI n 3).toNat]!) (hi := fun _ => by simp [envsM]; omega) ?_
  refine r_faP ?_; refine r_iaPP 0 ?_; refine r_stF _ (he := by exact rfl) ?_; refine reg_end (env' := [_, _, _]) ?_; refine wp_regseq ?_; refine r_ldB ?_; refine r_stF _ ?_; refine reg_end (env' := [_, _, _]) ?_; refine wp_ret ?_
  refine res_of trivial q2 q3 (Eq.trans q7 (?_))
  rfl
def C29 (Γ : Ctx) : Prop := ∀ (n : Int), Γ.pre 29 [.int .i64 n] ∧ Γ.val 29 [.int .i64 n] = Env.D (envM n)
end Go.Abs
end
