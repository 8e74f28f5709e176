/- A part of the proofs of the statements of package linchpinlaw33: T23, LPlain1, LPlain2, LPlain3, LPlain4, LPlain5, T24, Y0, Y1. -/
import Derived.KernelRfl
import Derived.Test.YtbpdiikonpbgeaaGreatDoorProg
import Derived.Test.YtbpdiikonpbgeaaGreatDoorP10
set_option linter.all false
section
namespace Go.Abs
open Go
/-- linchpin/linchpinlaw33.LockMay -/
def law33_LockMay : AFunc := { np := 6, ns := 11, res := [⟨6, none⟩], rsh := [[.a]], body := (.seq (.reg false [⟨.box 4 (.s 0), none⟩, ⟨.mv (.c (.bool false)), none⟩] [(7, 0), (6, 1)]) (.seq (.seq (.reg false [⟨.ld 4 true (.s 7), none⟩, ⟨.call 1184 [(.l 0)] [[.a, .a, .a, .sl 9 [.a, .a, .a, .a, .a, .a, .a, .a, .sl 1 [.a]]]], none⟩, ⟨.un .not (.l 1), none⟩, ⟨.mv (.l 2), none⟩, ⟨.mv (.s 1), some (3, false)⟩, ⟨.len (.l 4), some (3, false)⟩, ⟨.bin .gtr (.l 5) (.c (.int .i64 60)), some (3, false)⟩, ⟨.pick (.l 3) (.c (.bool true)) (.l 6), none⟩, ⟨.mv (.l 7), none⟩, ⟨.mv (.s 5), some (8, false)⟩, ⟨.lenS (.l 9), some (8, false)⟩, ⟨.bin .gtr (.l 10) (.c (.int .i64 100)), some (8, false)⟩, ⟨.pick (.l 8) (.c (.bool true)) (.l 11), none⟩] [(8, 12)]) (.cond (.s 8) (.seq (.reg false [⟨.call 119 [] [], none⟩, ⟨.mv (.l 0), none⟩] [(6, 1)]) .ret) .skip)) (.seq (.reg false [⟨.mv (.s 1), none⟩, ⟨.call 160 [(.l 0)] [[.sl 1 [.a]]], none⟩, ⟨.box 4 (.c (.agg [.str [], .str [], .str [], .nils])), none⟩, ⟨.st 4 (.l 2) (.l 1), none⟩] [(9, 2)]) (.seq (.reg false [⟨.ld 4 true (.s 9), none⟩, ⟨.mv (.s 2), none⟩, ⟨.mv (.s 3), none⟩, ⟨.mv (.s 4), none⟩, ⟨.call 93 [(.l 0), (.l 1), (.l 2), (.l 3)] [[.a, .a, .a, .sl 9 [.a, .a, .a, .a, .a, .a, .a, .a, .sl 1 [.a]]], [.a], [.a], [.a]], none⟩, ⟨.box 4 (.c (.agg [.str [], .str [], .str [], .nils])), none⟩, ⟨.st 4 (.l 5) (.l 4), none⟩] [(10, 5)]) (.seq (.reg true [⟨.ld 4 true (.s 7), none⟩, ⟨.call 315 [(.l 0)] [[.a, .a, .a, .sl 9 [.a, .a, .a, .a, .a, .a, .a, .a, .sl 1 [.a]]]], none⟩, ⟨.ld 4 true (.s 7), none⟩, ⟨.call 189 [(.l 2)] [[.a, .a, .a, .sl 9 [.a, .a, .a, .a, .a, .a, .a, .a, .sl 1 [.a]]]], none⟩, ⟨.eqA false false [.b] (.l 1) (.l 3), none⟩, ⟨.mv (.l 4), none⟩, ⟨.ld 4 true (.s 9), some (5, true)⟩, ⟨.call 315 [(.l 6)] [[.a, .a, .a, .sl 9 [.a, .a, .a, .a, .a, .a, .a, .a, .sl 1 [.a]]]], some (5, true)⟩, ⟨.ld 4 true (.s 9), some (5, true)⟩, ⟨.call 189 [(.l 8)] [[.a, .a, .a, .sl 9 [.a, .a, .a, .a, .a, .a, .a, .a, .sl 1 [.a]]]], some (5, true)⟩, ⟨.eqA false false [.b] (.l 7) (.l 9), some (5, true)⟩, ⟨.pick (.l 5) (.l 10) (.c (.bool false)), none⟩, ⟨.mv (.l 11), none⟩, ⟨.ld 4 true (.s 10), some (12, true)⟩, ⟨.call 315 [(.l 13)] [[.a, .a, .a, .sl 9 [.a, .a, .a, .a, .a, .a, .a, .a, .sl 1 [.a]]]], some (12, true)⟩, ⟨.ld 4 true (.s 10), some (12, true)⟩, ⟨.call 189 [(.l 15)] [[.a, .a, .a, .sl 9 [.a, .a, .a, .a, .a, .a, .a, .a, .sl 1 [.a]]]], some (12, true)⟩, ⟨.eqA false false [.b] (.l 14) (.l 16), some (12, true)⟩, ⟨.pick (.l 12) (.l 17) (.c (.bool false)), none⟩, ⟨.mv (.l 18), none⟩, ⟨.ld 4 true (.s 9), some (19, true)⟩, ⟨.ld 4 true (.s 10), some (19, true)⟩, ⟨.call 314 [(.l 20), (.l 21)] [[.a, .a, .a, .sl 9 [.a, .a, .a, .a, .a, .a, .a, .a, .sl 1 [.a]]], [.a, .a, .a, .sl 9 [.a, .a, .a, .a, .a, .a, .a, .a, .sl 1 [.a]]]], some (19, true)⟩, ⟨.ld 4 true (.s 9), some (19, true)⟩, ⟨.ld 4 true (.s 10), some (19, true)⟩, ⟨.call 117 [(.l 23), (.l 24)] [[.a, .a, .a, .sl 9 [.a, .a, .a, .a, .a, .a, .a, .a, .sl 1 [.a]]], [.a, .a, .a, .sl 9 [.a, .a, .a, .a, .a, .a, .a, .a, .sl 1 [.a]]]], some (19, true)⟩, ⟨.eqA false false [.b] (.l 22) (.l 25), some (19, true)⟩, ⟨.pick (.l 19) (.l 26) (.c (.bool false)), none⟩, ⟨.mv (.l 27), none⟩, ⟨.ld 4 true (.s 7), some (28, true)⟩, ⟨.ld 4 true (.s 10), some (28, true)⟩, ⟨.call 314 [(.l 29), (.l 30)] [[.a, .a, .a, .sl 9 [.a, .a, .a, .a, .a, .a, .a, .a, .sl 1 [.a]]], [.a, .a, .a, .sl 9 [.a, .a, .a, .a, .a, .a, .a, .a, .sl 1 [.a]]]], some (28, true)⟩, ⟨.ld 4 true (.s 7), some (28, true)⟩, ⟨.ld 4 true (.s 10), some (28, true)⟩, ⟨.call 117 [(.l 32), (.l 33)] [[.a, .a, .a, .sl 9 [.a, .a, .a, .a, .a, .a, .a, .a, .sl 1 [.a]]], [.a, .a, .a, .sl 9 [.a, .a, .a, .a, .a, .a, .a, .a, .sl 1 [.a]]]], some (28, true)⟩, ⟨.eqA false false [.b] (.l 31) (.l 34), some (28, true)⟩, ⟨.pick (.l 28) (.l 35) (.c (.bool false)), none⟩, ⟨.mv (.l 36), none⟩, ⟨.ld 4 true (.s 10), some (37, true)⟩, ⟨.mv (.s 5), some (37, true)⟩, ⟨.call 294 [(.l 38), (.l 39)] [[.a, .a, .a, .sl 9 [.a, .a, .a, .a, .a, .a, .a, .a, .sl 1 [.a]]], [.a]], some (37, true)⟩, ⟨.ld 4 true (.s 10), some (37, true)⟩, ⟨.mv (.s 5), some (37, true)⟩, ⟨.call 190 [(.l 41), (.l 42)] [[.a, .a, .a, .sl 9 [.a, .a, .a, .a, .a, .a, .a, .a, .sl 1 [.a]]], [.a]], some (37, true)⟩, ⟨.bin .eql (.l 40) (.l 43), some (37, true)⟩, ⟨.pick (.l 37) (.l 44) (.c (.bool false)), none⟩, ⟨.mv (.l 45), none⟩, ⟨.ld 4 true (.s 7), some (46, true)⟩, ⟨.call 294 [(.l 47), (.c (.str [99, 111, 119]))] [[.a, .a, .a, .sl 9 [.a, .a, .a, .a, .a, .a, .a, .a, .sl 1 [.a]]], [.a]], some (46, true)⟩, ⟨.ld 4 true (.s 7), some (46, true)⟩, ⟨.call 190 [(.l 49), (.c (.str [99, 111, 119]))] [[.a, .a, .a, .sl 9 [.a, .a, .a, .a, .a, .a, .a, .a, .sl 1 [.a]]], [.a]], some (46, true)⟩, ⟨.bin .eql (.l 48) (.l 50), some (46, true)⟩, ⟨.pick (.l 46) (.l 51) (.c (.bool false)), none⟩, ⟨.mv (.l 52), none⟩, ⟨.ld 4 true (.s 10), some (53, true)⟩, ⟨.call 101 [(.l 54)] [[.a, .a, .a, .sl 9 [.a, .a, .a, .a, .a, .a, .a, .a, .sl 1 [.a]]]], some (53, true)⟩, ⟨.ld 4 true (.s 10), some (53, true)⟩, ⟨.call 594 [(.l 56)] [[.a, .a, .a, .sl 9 [.a, .a, .a, .a, .a, .a, .a, .a, .sl 1 [.a]]]], some (53, true)⟩, ⟨.call 1185 [(.l 55), (.l 57)] [[.sl 6 [.a, .a, .a, .a, .a, .a]], [.sl 6 [.a, .a, .a, .a, .a, .a]]], some (53, true)⟩, ⟨.pick (.l 53) (.l 58) (.c (.bool false)), none⟩, ⟨.mv (.l 59), none⟩, ⟨.ld 4 true (.s 7), some (60, true)⟩, ⟨.call 101 [(.l 61)] [[.a, .a, .a, .sl 9 [.a, .a, .a, .a, .a, .a, .a, .a, .sl 1 [.a]]]], some (60, true)⟩, ⟨.ld 4 true (.s 7), some (60, true)⟩, ⟨.call 594 [(.l 63)] [[.a, .a, .a, .sl 9 [.a, .a, .a, .a, .a, .a, .a, .a, .sl 1 [.a]]]], some (60, true)⟩, ⟨.call 1185 [(.l 62), (.l 64)] [[.sl 6 [.a, .a, .a, .a, .a, .a]], [.sl 6 [.a, .a, .a, .a, .a, .a]]], some (60, true)⟩, ⟨.pick (.l 60) (.l 65) (.c (.bool false)), none⟩, ⟨.mv (.l 66), none⟩, ⟨.call 119 [] [], some (67, true)⟩, ⟨.pick (.l 67) (.l 68) (.c (.bool false)), none⟩, ⟨.mv (.l 69), none⟩] [(6, 70)]) .ret))))) }
theorem w1188 {Γ : Ctx} (hm : (Γ.at 0).Mono) (h93 : C93 (Γ.at 0)) (h101 : C101 (Γ.at 0)) (h117 : C117 (Γ.at 0)) (h119 : C119 (Γ.at 0)) (h160 : C160 (Γ.at 0)) (h189 : C189 (Γ.at 0)) (h190 : C190 (Γ.at 0)) (h294 : C294 (Γ.at 0)) (h314 : C314 (Γ.at 0)) (h315 : C315 (Γ.at 0)) (h594 : C594 (Γ.at 0)) (h1184 : C1184 (Γ.at 0)) (h1185 : C1185 (Γ.at 0)) (raw : Lck) (ks : List Int) (pa : Int) (pw : Int) (pb : Int) (nm : Str) (hp0 : raw.sm) : wpA (Γ.at 0) law33_LockMay.body (Res law33_LockMay (.bool true) : Ex → List Ent → St → Prop) (env0 law33_LockMay [Lck.D raw, .sl 1 (ks.map (D.int .i64)), .int .i64 pa, .int .i64 pw, .int .i64 pb, .str nm]) ⟨0, []⟩ := by
  show wpA _ _ _ [⟨true, Lck.D raw⟩, ⟨true, .sl 1 (ks.map (D.int .i64))⟩, ⟨true, .int .i64 pa⟩, ⟨true, .int .i64 pw⟩, ⟨true, .int .i64 pb⟩, ⟨true, .str nm⟩, .un, .un, .un, .un, .un] ⟨0, []⟩
  have hl2 := lockM_ok ks
  have hb3 := bentM_ok hl2 pa pw pb
  have hls := hl2.sm (by omega)
  have hbs := hb3.sm (by omega)
  refine wp_regseq ?_; refine r_box ?_; refine r_mv ?_; refine reg_end (env' := [_, _, _, _, _, _, ⟨_, (.bool _)⟩, ⟨_, _⟩, _, _, _]) ?_; refine wp_assoc ?_; refine wp_regseq ?_; refine r_ldB (d := Lck.D raw) ?_; refine r_call (hc := h1184 _) ?_; refine r_not ?_; refine r_mv ?_; refine r_mv ?_
  refine r_lenM fun _ => ?_
  refine r_gtrI ?_; refine r_or ?_; refine r_mv ?_; refine r_mv ?_
  refine r_lenS fun _ => ?_
  refine r_gtrI ?_; refine r_or ?_; refine reg_end (env' := [_, _, _, _, _, _, _, _, ⟨_, (.bool _)⟩, _, _]) ?_
  refine wp_condseq (fun hc0 => ?_) (fun hc0 => ?_)
  · try simp only [b0, b1, b2, b3, b4, b5, b6, b7, b8, b9, b10, b11] at hc0
    refine wp_assoc ?_; refine wp_regseq ?_; refine r_call (hc := h119 ) ?_; refine r_mv ?_; refine reg_end (env' := [_, _, _, _, _, _, ⟨_, (.bool _)⟩, _, _, _, _]) ?_; refine wp_retseq ?_
    refine res_of trivial q2 q3 (Eq.trans q7 (congrArg D.bool ?_))
    first | rfl | (simp; done)
  · try simp only [b0, b1, b2, b3, b4, b5, b6, b7, b8, b9, b10, b11] at hc0
    refine wp_skipseq ?_; refine wp_regseq ?_; refine r_mv ?_; refine r_call (hc := h160 ks) ?_; refine r_box ?_; refine r_stF (Lck.D (lockM ks)) (he := by exact rfl) ?_; refine reg_end (env' := [_, _, _, _, _, _, _, _, _, ⟨_, _⟩, _]) ?_; refine wp_regseq ?_; refine r_ldB (d := Lck.D (lockM ks)) ?_; refine r_mv ?_; refine r_mv ?_; refine r_mv ?_; refine r_call (hc := h93 (lockM ks) pa pw pb hls) ?_; refine r_box ?_; refine r_stF (Lck.D (bentM (lockM ks) pa pw pb)) (he := by exact rfl) ?_; refine reg_end (env' := [_, _, _, _, _, _, _, _, _, _, ⟨_, _⟩]) ?_; refine wp_regseq ?_; refine r_ldB (d := Lck.D raw) ?_
    refine r_call (hc := h315 raw hp0) ?_; refine r_ldB (d := Lck.D raw) ?_; refine r_call (hc := h189 raw hp0) ?_; refine r_eqP (hb := eqDs_bool _) ?_; refine r_mv ?_; refine r_ldB (d := Lck.D (lockM ks)) ?_
    refine r_callG (hc := fun _ => h315 (lockM ks) hls) ?_
    refine r_ldB (d := Lck.D (lockM ks)) ?_
    refine r_callG (hc := fun _ => h189 (lockM ks) hls) ?_
    refine r_eqP (hb := eqDs_bool _) ?_; refine r_and ?_; refine r_mv ?_; refine r_ldB (d := Lck.D (bentM (lockM ks) pa pw pb)) ?_
    refine r_callG (hc := fun _ => h315 (bentM (lockM ks) pa pw pb) hbs) ?_
    refine r_ldB (d := Lck.D (bentM (lockM ks) pa pw pb)) ?_
    refine r_callG (hc := fun _ => h189 (bentM (lockM ks) pa pw pb) hbs) ?_
    refine r_eqP (hb := eqDs_bool _) ?_; refine r_and ?_; refine r_mv ?_; refine r_ldB (d := Lck.D (lockM ks)) ?_; refine r_ldB (d := Lck.D (bentM (lockM ks) pa pw pb)) ?_; refine r_call (hc := h314 (lockM ks) (bentM (lockM ks) pa pw pb)) ?_; refine r_ldB (d := Lck.D (lockM ks)) ?_; refine r_ldB (d := Lck.D (bentM (lockM ks) pa pw pb)) ?_; refine r_call (hc := h117 (lockM ks) (bentM (lockM ks) pa pw pb)) ?_; refine r_eqP (hb := eqDs_bool _) ?_; refine r_and ?_; refine r_mv ?_; refine r_ldB (d := Lck.D raw) ?_; refine r_ldB (d := Lck.D (bentM (lockM ks) pa pw pb)) ?_; refine r_call (hc := h314 raw (bentM (lockM ks) pa pw pb)) ?_
    refine r_ldB (d := Lck.D raw) ?_; refine r_ldB (d := Lck.D (bentM (lockM ks) pa pw pb)) ?_; refine r_call (hc := h117 raw (bentM (lockM ks) pa pw pb)) ?_; refine r_eqP (hb := eqDs_bool _) ?_; refine r_and ?_; refine r_mv ?_; refine r_ldB (d := Lck.D (bentM (lockM ks) pa pw pb)) ?_; refine r_mv ?_; refine r_call (hc := h294 (bentM (lockM ks) pa pw pb) nm) ?_; refine r_ldB (d := Lck.D (bentM (lockM ks) pa pw pb)) ?_; refine r_mv ?_; refine r_call (hc := h190 (bentM (lockM ks) pa pw pb) nm) ?_; refine r_eqlI ?_; refine r_and ?_; refine r_mv ?_; refine r_ldB (d := Lck.D raw) ?_; refine r_call (hc := h294 raw [99, 111, 119]) ?_
    refine r_ldB (d := Lck.D raw) ?_; refine r_call (hc := h190 raw [99, 111, 119]) ?_; refine r_eqlI ?_; refine r_and ?_; refine r_mv ?_; refine r_ldB (d := Lck.D (bentM (lockM ks) pa pw pb)) ?_
    refine r_callG (hc := fun _ => h101 (bentM (lockM ks) pa pw pb) hbs) ?_
    refine r_ldB (d := Lck.D (bentM (lockM ks) pa pw pb)) ?_
    refine r_callG (hc := fun _ => h594 (bentM (lockM ks) pa pw pb) hbs) ?_
    refine r_call (hc := h1185 _ _) ?_; refine r_and ?_; refine r_mv ?_; refine r_ldB (d := Lck.D raw) ?_
    refine r_callG (hc := fun _ => h101 raw hp0) ?_
    refine r_ldB (d := Lck.D raw) ?_
    refine r_callG (hc := fun _ => h594 raw hp0) ?_
    refine r_call (hc := h1185 _ _) ?_; refine r_and ?_; refine r_mv ?_; refine r_call (hc := h119 ) ?_; refine r_and ?_; refine r_mv ?_; refine reg_end (env' := [_, _, _, _, _, _, ⟨_, (.bool _)⟩, _, _, _, _]) ?_; refine wp_ret ?_
    refine res_of trivial q2 q3 (Eq.trans q7 (congrArg D.bool ?_))
    first | rfl | (simp; done)
/-- linchpin/linchpinlaw33.LockPrints -/
def law33_LockPrints : AFunc := { np := 5, ns := 18, res := [⟨5, none⟩], rsh := [[.a]], body := (.seq (.reg false [⟨.box 4 (.s 0), none⟩, ⟨.mv (.c (.bool false)), none⟩] [(6, 0), (5, 1)]) (.seq (.seq (.reg false [⟨.ld 4 true (.s 6), none⟩, ⟨.call 1184 [(.l 0)] [[.a, .a, .a, .sl 9 [.a, .a, .a, .a, .a, .a, .a, .a, .sl 1 [.a]]]], none⟩, ⟨.un .not (.l 1), none⟩, ⟨.mv (.l 2), none⟩, ⟨.mv (.s 1), some (3, false)⟩, ⟨.len (.l 4), some (3, false)⟩, ⟨.bin .gtr (.l 5) (.c (.int .i64 60)), some (3, false)⟩, ⟨.pick (.l 3) (.c (.bool true)) (.l 6), none⟩] [(7, 7)]) (.cond (.s 7) (.seq (.reg false [⟨.call 119 [] [], none⟩, ⟨.mv (.l 0), none⟩] [(5, 1)]) .ret) .skip)) (.seq (.reg false [⟨.mv (.s 1), none⟩, ⟨.call 160 [(.l 0)] [[.sl 1 [.a]]], none⟩, ⟨.mv (.s 2), none⟩, ⟨.mv (.s 3), none⟩, ⟨.mv (.s 4), none⟩, ⟨.call 93 [(.l 1), (.l 2), (.l 3), (.l 4)] [[.a, .a, .a, .sl 9 [.a, .a, .a, .a, .a, .a, .a, .a, .sl 1 [.a]]], [.a], [.a], [.a]], none⟩, ⟨.box 4 (.c (.agg [.str [], .str [], .str [], .nils])), none⟩, ⟨.st 4 (.l 6) (.l 5), none⟩] [(8, 6)]) (.seq (.reg false [⟨.ld 4 true (.s 8), none⟩, ⟨.call 93 [(.l 0), (.c (.int .i64 0)), (.c (.int .i64 3)), (.c (.int .i64 0))] [[.a, .a, .a, .sl 9 [.a, .a, .a, .a, .a, .a, .a, .a, .sl 1 [.a]]], [.a], [.a], [.a]], none⟩, ⟨.box 4 (.c (.agg [.str [], .str [], .str [], .nils])), none⟩, ⟨.st 4 (.l 2) (.l 1), none⟩] [(9, 2)]) (.seq (.reg false [⟨.ld 4 true (.s 9), none⟩, ⟨.call 312 [(.l 0)] [[.a, .a, .a, .sl 9 [.a, .a, .a, .a, .a, .a, .a, .a, .sl 1 [.a]]]], none⟩, ⟨.mv (.l 1), none⟩, ⟨.ext (.l 2) 0, none⟩, ⟨.ext (.l 2) 1, none⟩, ⟨.mv (.l 3), none⟩, ⟨.mv (.l 4), none⟩] [(10, 5), (12, 6)]) (.seq (.reg false [⟨.ld 4 true (.s 8), none⟩, ⟨.call 571 [(.l 0)] [[.a, .a, .a, .sl 9 [.a, .a, .a, .a, .a, .a, .a, .a, .sl 1 [.a]]]], none⟩, ⟨.mv (.l 1), none⟩, ⟨.ext (.l 2) 0, none⟩, ⟨.ext (.l 2) 1, none⟩, ⟨.mv (.l 3), none⟩, ⟨.mv (.l 4), none⟩] [(11, 5), (13, 6)]) (.seq (.reg false [⟨.ld 4 true (.s 6), none⟩, ⟨.call 312 [(.l 0)] [[.a, .a, .a, .sl 9 [.a, .a, .a, .a, .a, .a, .a, .a, .sl 1 [.a]]]], none⟩, ⟨.mv (.l 1), none⟩, ⟨.ext (.l 2) 0, none⟩, ⟨.ext (.l 2) 1, none⟩, ⟨.mv (.l 3), none⟩, ⟨.mv (.l 4), none⟩] [(14, 5), (16, 6)]) (.seq (.reg false [⟨.ld 4 true (.s 6), none⟩, ⟨.call 571 [(.l 0)] [[.a, .a, .a, .sl 9 [.a, .a, .a, .a, .a, .a, .a, .a, .sl 1 [.a]]]], none⟩, ⟨.mv (.l 1), none⟩, ⟨.ext (.l 2) 0, none⟩, ⟨.ext (.l 2) 1, none⟩, ⟨.mv (.l 3), none⟩, ⟨.mv (.l 4), none⟩] [(15, 5), (17, 6)]) (.seq (.reg false [⟨.mv (.s 10), none⟩, ⟨.mv (.s 11), none⟩, ⟨.bin .eql (.l 0) (.l 1), none⟩, ⟨.mv (.l 2), none⟩, ⟨.mv (.s 12), some (3, true)⟩, ⟨.mv (.s 13), some (3, true)⟩, ⟨.bin .eql (.l 4) (.l 5), some (3, true)⟩, ⟨.pick (.l 3) (.l 6) (.c (.bool false)), none⟩, ⟨.mv (.l 7), none⟩, ⟨.mv (.s 14), some (8, true)⟩, ⟨.mv (.s 15), some (8, true)⟩, ⟨.bin .eql (.l 9) (.l 10), some (8, true)⟩, ⟨.pick (.l 8) (.l 11) (.c (.bool false)), none⟩, ⟨.mv (.l 12), none⟩, ⟨.mv (.s 16), some (13, true)⟩, ⟨.mv (.s 17), some (13, true)⟩, ⟨.bin .eql (.l 14) (.l 15), some (13, true)⟩, ⟨.pick (.l 13) (.l 16) (.c (.bool false)), none⟩, ⟨.mv (.l 17), none⟩, ⟨.ld 4 true (.s 8), some (18, true)⟩, ⟨.ld 4 true (.s 9), some (18, true)⟩, ⟨.call 117 [(.l 19), (.l 20)] [[.a, .a, .a, .sl 9 [.a, .a, .a, .a, .a, .a, .a, .a, .sl 1 [.a]]], [.a, .a, .a, .sl 9 [.a, .a, .a, .a, .a, .a, .a, .a, .sl 1 [.a]]]], some (18, true)⟩, ⟨.pick (.l 18) (.l 21) (.c (.bool false)), none⟩, ⟨.mv (.l 22), none⟩, ⟨.call 119 [] [], some (23, true)⟩, ⟨.pick (.l 23) (.l 24) (.c (.bool false)), none⟩, ⟨.mv (.l 25), none⟩] [(5, 26)]) .ret))))))))) }
theorem w1186 {Γ : Ctx} (hm : (Γ.at 0).Mono) (h93 : C93 (Γ.at 0)) (h117 : C117 (Γ.at 0)) (h119 : C119 (Γ.at 0)) (h160 : C160 (Γ.at 0)) (h312 : C312 (Γ.at 0)) (h571 : C571 (Γ.at 0)) (h1184 : C1184 (Γ.at 0)) (raw : Lck) (ks : List Int) (pa : Int) (pw : Int) (pb : Int) (hp0 : raw.sm) : wpA (Γ.at 0) law33_LockPrints.body (Res law33_LockPrints (.bool true) : Ex → List Ent → St → Prop) (env0 law33_LockPrints [Lck.D raw, .sl 1 (ks.map (D.int .i64)), .int .i64 pa, .int .i64 pw, .int .i64 pb]) ⟨0, []⟩ := by
  show wpA _ _ _ [⟨true, Lck.D raw⟩, ⟨true, .sl 1 (ks.map (D.int .i64))⟩, ⟨true, .int .i64 pa⟩, ⟨true, .int .i64 pw⟩, ⟨true, .int .i64 pb⟩, .un, .un, .un, .un, .un, .un, .un, .un, .un, .un, .un, .un, .un] ⟨0, []⟩
  have hl2 := lockM_ok ks
  have hb3 := bentM_ok hl2 pa pw pb
  have hls := hl2.sm (by omega)
  have hbs := hb3.sm (by omega)
  refine wp_regseq ?_; refine r_box ?_; refine r_mv ?_; refine reg_end (env' := [_, _, _, _, _, ⟨_, (.bool _)⟩, ⟨_, _⟩, _, _, _, _, _, _, _, _, _, _, _]) ?_; refine wp_assoc ?_; refine wp_regseq ?_; refine r_ldB (d := Lck.D raw) ?_; refine r_call (hc := h1184 _) ?_; refine r_not ?_; refine r_mv ?_; refine r_mv ?_
  refine r_lenM fun _ => ?_
  refine r_gtrI ?_; refine r_or ?_; refine reg_end (env' := [_, _, _, _, _, _, _, ⟨_, (.bool _)⟩, _, _, _, _, _, _, _, _, _, _]) ?_
  refine wp_condseq (fun hc0 => ?_) (fun hc0 => ?_)
  · try simp only [b0, b1, b2, b3, b4, b5, b6, b7, b8, b9, b10, b11] at hc0
    refine wp_assoc ?_; refine wp_regseq ?_; refine r_call (hc := h119 ) ?_; refine r_mv ?_; refine reg_end (env' := [_, _, _, _, _, ⟨_, (.bool _)⟩, _, _, _, _, _, _, _, _, _, _, _, _]) ?_; refine wp_retseq ?_
    refine res_of trivial q2 q3 (Eq.trans q7 (congrArg D.bool ?_))
    first | rfl | (simp; done)
  · try simp only [b0, b1, b2, b3, b4, b5, b6, b7, b8, b9, b10, b11] at hc0
    refine wp_skipseq ?_; refine wp_regseq ?_; refine r_mv ?_; refine r_call (hc := h160 ks) ?_; refine r_mv ?_; refine r_mv ?_; refine r_mv ?_; refine r_call (hc := h93 (lockM ks) pa pw pb hls) ?_; refine r_box ?_; refine r_stF (Lck.D (bentM (lockM ks) pa pw pb)) (he := by exact rfl) ?_; refine reg_end (env' := [_, _, _, _, _, _, _, _, ⟨_, _⟩, _, _, _, _, _, _, _, _, _]) ?_; refine wp_regseq ?_; refine r_ldB (d := Lck.D (bentM (lockM ks) pa pw pb)) ?_
    refine r_call (hc := h93 (bentM (lockM ks) pa pw pb) 0 3 0 hbs) ?_; rw [bent_same hb3]
    refine r_box ?_; refine r_stF (Lck.D (bentM (lockM ks) pa pw pb)) (he := by exact rfl) ?_; refine reg_end (env' := [_, _, _, _, _, _, _, _, _, ⟨_, _⟩, _, _, _, _, _, _, _, _]) ?_; refine wp_regseq ?_; refine r_ldB (d := Lck.D (bentM (lockM ks) pa pw pb)) ?_; refine r_call (hc := h312 (bentM (lockM ks) pa pw pb) hbs) ?_; refine r_mv ?_; refine r_ext (.str _) ?_; refine r_ext (.int _ _) ?_; refine r_mv ?_; refine r_mv ?_; refine reg_end (env' := [_, _, _, _, _, _, _, _, _, _, ⟨_, (.str _)⟩, _, ⟨_, (.int _ _)⟩, _, _, _, _, _]) ?_; refine wp_regseq ?_; refine r_ldB (d := Lck.D (bentM (lockM ks) pa pw pb)) ?_
    refine r_call (hc := h571 (bentM (lockM ks) pa pw pb) hbs) ?_; refine r_mv ?_; refine r_ext (.str _) ?_; refine r_ext (.int _ _) ?_; refine r_mv ?_; refine r_mv ?_; refine reg_end (env' := [_, _, _, _, _, _, _, _, _, _, _, ⟨_, (.str _)⟩, _, ⟨_, (.int _ _)⟩, _, _, _, _]) ?_; refine wp_regseq ?_; refine r_ldB (d := Lck.D raw) ?_; refine r_call (hc := h312 raw hp0) ?_; refine r_mv ?_; refine r_ext (.str _) ?_; refine r_ext (.int _ _) ?_; refine r_mv ?_; refine r_mv ?_; refine reg_end (env' := [_, _, _, _, _, _, _, _, _, _, _, _, _, _, ⟨_, (.str _)⟩, _, ⟨_, (.int _ _)⟩, _]) ?_; refine wp_regseq ?_
    refine r_ldB (d := Lck.D raw) ?_; refine r_call (hc := h571 raw hp0) ?_; refine r_mv ?_; refine r_ext (.str _) ?_; refine r_ext (.int _ _) ?_; refine r_mv ?_; refine r_mv ?_; refine reg_end (env' := [_, _, _, _, _, _, _, _, _, _, _, _, _, _, _, ⟨_, (.str _)⟩, _, ⟨_, (.int _ _)⟩]) ?_; refine wp_regseq ?_; refine r_mv ?_; refine r_mv ?_; refine r_eqlS ?_; refine r_mv ?_; refine r_mv ?_; refine r_mv ?_; refine r_eqlI ?_; refine r_and ?_; refine r_mv ?_; refine r_mv ?_; refine r_mv ?_; refine r_eqlS ?_; refine r_and ?_; refine r_mv ?_; refine r_mv ?_; refine r_mv ?_; refine r_eqlI ?_; refine r_and ?_
    refine r_mv ?_; refine r_ldB (d := Lck.D (bentM (lockM ks) pa pw pb)) ?_; refine r_ldB (d := Lck.D (bentM (lockM ks) pa pw pb)) ?_; refine r_call (hc := h117 (bentM (lockM ks) pa pw pb) (bentM (lockM ks) pa pw pb)) ?_; refine r_and ?_; refine r_mv ?_; refine r_call (hc := h119 ) ?_; refine r_and ?_; refine r_mv ?_; refine reg_end (env' := [_, _, _, _, _, ⟨_, (.bool _)⟩, _, _, _, _, _, _, _, _, _, _, _, _]) ?_; refine wp_ret ?_
    refine res_of trivial q2 q3 (Eq.trans q7 (congrArg D.bool ?_))
    first | rfl | (simp; done)
end Go.Abs
end
section
namespace Go.Abs
theorem at8_get (s : Str) (i : Nat) (h : i < s.length) : at8 s i = ((s[i]'h).toNat : Int) := by simp [at8, h]
theorem allF_mem (p : Int → Bool) (s : Str) : allF (fun i => p (at8 s i)) 0 s.length = true ↔ ∀ c ∈ s, p c.toNat = true := by
  rw [allF_iff]
  constructor
  · intro h c hc
    obtain ⟨i, hi, rfl⟩ := List.getElem_of_mem hc
    have := h i (by omega) hi
    rwa [at8_get s i hi] at this
  · intro h j _ hj
    rw [at8_get s j hj]
    exact h _ (List.getElem_mem hj)
theorem splitX_none {b : Int} : ∀ {s cur : Str}, (∀ c ∈ s, (c.toNat : Int) ≠ b) → splitX b s cur = [cur ++ s]
  | [], cur, _ => by simp [splitX]
  | c :: r, cur, h => by
    simp only [splitX]
    rw [if_neg (h c (.head _)), splitX_none (fun d hd => h d (.tail _ hd))]
    simp
theorem splitX_sep {b : Int} {x : UInt8} (hx : (x.toNat : Int) = b) (r : Str) : ∀ {w cur : Str}, (∀ c ∈ w, (c.toNat : Int) ≠ b) → splitX b (w ++ x :: r) cur = (cur ++ w) :: splitX b r []
  | [], cur, _ => by simp [splitX, hx]
  | c :: w, cur, h => by
    simp only [List.cons_append, splitX]
    rw [if_neg (h c (.head _)), splitX_sep hx r (fun d hd => h d (.tail _ hd))]
    simp
theorem splitL_join {b : Int} {x : UInt8} (hx : (x.toNat : Int) = b) : ∀ {ws : List Str}, ws ≠ [] → (∀ w ∈ ws, ∀ c ∈ w, (c.toNat : Int) ≠ b) → splitL (joinS [x] ws) b = ws
  | [], h, _ => absurd rfl h
  | [w], _, h => by
    show splitX b w [] = [w]
    rw [splitX_none (h w (.head _))]; rfl
  | w :: u :: r, _, h => by
    have ih := splitL_join (ws := u :: r) hx (by simp) (fun v hv => h v (.tail _ hv))
    show splitX b (w ++ [x] ++ joinS [x] (u :: r)) [] = _
    rw [List.append_assoc, List.singleton_append, splitX_sep hx _ (h w (.head _))]
    rw [show splitX b (joinS [x] (u :: r)) [] = u :: r from ih]; rfl
theorem join_splitX {b : Int} {x : UInt8} (hx : (x.toNat : Int) = b) : ∀ (s cur : Str), joinS [x] (splitX b s cur) = cur ++ s
  | [], cur => by simp [splitX, joinS]
  | c :: r, cur => by
    simp only [splitX]
    split
    · rename_i h
      rw [joinS_cons _ _ _ (by intro h; have := splitX_pos b r []; rw [h] at this; simp at this), join_splitX hx r []]
      have : c = x := UInt8.toNat_inj.1 (by omega)
      simp [this]
    · rw [join_splitX hx r]; simp
theorem join_splitL {b : Int} {x : UInt8} (hx : (x.toNat : Int) = b) (s : Str) : joinS [x] (splitL s b) = s := by
  unfold splitL
  rw [join_splitX hx]; rfl
theorem findIdx_no {p : UInt8 → Bool} {w : Str} (h : ∀ c ∈ w, p c = false) : w.findIdx? p = none := by
  rw [List.findIdx?_eq_none_iff]; exact h
theorem findIdx_app {p : UInt8 → Bool} {w : Str} {x : UInt8} {r : Str} (h : ∀ c ∈ w, p c = false) (hx : p x = true) : (w ++ x :: r).findIdx? p = some w.length := by
  rw [List.findIdx?_append, findIdx_no h, List.findIdx?_cons, if_pos hx]
  simp
theorem behindL_no {b : Int} {w : Str} (h : ∀ c ∈ w, (c.toNat : Int) ≠ b) : behindL w b = ([], w) := by
  unfold behindL behindX
  rw [List.drop_zero, findIdx_no (fun c hc => by simpa using h c hc)]
theorem behindL_app {b : Int} {w r : Str} {x : UInt8} (h : ∀ c ∈ w, (c.toNat : Int) ≠ b) (hx : (x.toNat : Int) = b) : behindL (w ++ x :: r) b = (r, w) := by
  unfold behindL behindX
  rw [List.drop_zero, findIdx_app (fun c hc => by simpa using h c hc) (by simpa using hx)]
  simp
theorem cutL_app {b : UInt8} {w r : Str} (h : ∀ c ∈ w, c ≠ b) : cutL (w ++ b :: r) b = (w, r, true) := by
  unfold cutL
  rw [findIdx_app (fun c hc => by simpa using h c hc) (by simp)]
  simp
theorem dg_digit {n : Nat} (h : n < 10) : digitB (dg n).toNat = true := by
  have := dg_at h
  simp only [digitB, Bool.and_eq_true, decide_eq_true_eq]; omega
theorem decN_ind {Q : Nat → Prop} (h1 : ∀ n, n < 10 → Q n) (h2 : ∀ n, 9 < n → Q (n / 10) → Q n) (n : Nat) : Q n := by
  induction n using Nat.strongRecOn with
  | ind n ih =>
    by_cases h : n < 10
    · exact h1 n h
    · exact h2 n (by omega) (ih _ (by omega))
theorem decN_digits (n : Nat) : ∀ c ∈ decN n, digitB c.toNat = true := by
  refine decN_ind (Q := fun n => ∀ c ∈ decN n, digitB c.toNat = true) (fun n h c hc => ?_) (fun n h ih c hc => ?_) n
  · rw [decN_lt h] at hc
    obtain rfl := List.mem_singleton.1 hc
    exact dg_digit h
  · rw [decN_ge h] at hc
    rcases List.mem_append.1 hc with hc | hc
    · exact ih c hc
    · obtain rfl := List.mem_singleton.1 hc
      exact dg_digit (by omega)
theorem numVal_app (s : Str) (c : UInt8) : numVal (s ++ [c]) = numVal s * 10 + (c.toNat - 48) := by
  simp [numVal, List.foldl_append]
theorem numVal_decN (n : Nat) : numVal (decN n) = n := by
  refine decN_ind (Q := fun n => numVal (decN n) = n) (fun n h => ?_) (fun n h ih => ?_) n
  · rw [decN_lt h]
    have := dg_at h
    simp only [numVal, List.foldl_cons, List.foldl_nil]; omega
  · rw [decN_ge h, numVal_app, ih]
    have := dg_at (n := n % 10) (by omega)
    omega
theorem decN_ne (n : Nat) : decN n ≠ [] := by
  refine decN_ind (Q := fun n => decN n ≠ []) (fun n h => ?_) (fun n h ih => ?_) n
  · rw [decN_lt h]; simp
  · rw [decN_ge h]; simp
theorem decN_head (n : Nat) (h : 0 < n) : at8 (decN n) 0 ≠ 48 := by
  refine decN_ind (Q := fun n => 0 < n → at8 (decN n) 0 ≠ 48) (fun n h h0 => ?_) (fun n h ih h0 => ?_) n h
  · rw [decN_lt h]
    have := dg_at h
    simp only [at8, List.getD_cons_zero]; omega
  · rw [decN_ge h]
    have := ih (by omega)
    have hn := List.length_pos_iff.2 (decN_ne (n / 10))
    have e : at8 (decN (n / 10) ++ [dg (n % 10)]) 0 = at8 (decN (n / 10)) 0 := by
      simp only [at8, List.getD, List.getElem?_append_left hn]
    rw [e]; exact this
theorem numB_decN {n : Nat} (h : n ≤ 9999) : numB (decN n) = true := by
  rw [numB_4]
  have h1 := List.length_pos_iff.2 (decN_ne n)
  have h2 := decN_len 4 n (by omega) (by omega)
  have h3 : allF (fun i => digitB (at8 (decN n) i)) 0 (decN n).length = true := (allF_mem digitB _).2 (decN_digits n)
  rw [h3, decide_eq_true (show 1 ≤ (decN n).length by omega), decide_eq_true h2]
  by_cases h10 : n < 10
  · rw [decN_lt h10]; rfl
  · rw [decide_eq_false (decN_head n (by omega))]; simp
theorem numO_decN {n : Nat} (h : n ≤ 9999) : numO (decN n) = (n : Int) := by
  rw [numO, if_pos (numB_decN h), numVal_decN]
theorem joinS_mem (x : UInt8) : ∀ (ws : List Str) (c : UInt8), c ∈ joinS [x] ws → c = x ∨ ∃ w ∈ ws, c ∈ w
  | [], c, h => by simp [joinS] at h
  | [w], c, h => .inr ⟨w, .head _, h⟩
  | w :: u :: r, c, h => by
    rw [joinS_cons _ _ _ (by simp)] at h
    simp only [List.mem_append, List.mem_singleton] at h
    rcases h with (h | h) | h
    · exact .inr ⟨w, .head _, h⟩
    · exact .inl h
    · rcases joinS_mem x (u :: r) c h with h | ⟨v, hv, hc⟩
      · exact .inl h
      · exact .inr ⟨v, .tail _ hv, hc⟩
theorem tags_mem {s : Str} {p : Bool} (h : tagsB s p = true) {c : UInt8} (hc : c ∈ s) : tch c.toNat = true ∨ c = 46 := by
  simp only [tagsB, Bool.or_eq_true, decide_eq_true_eq, tagsP, Bool.and_eq_true, allF_iff] at h
  rcases h with rfl | ⟨_, h⟩
  · cases hc
  · rw [← join_splitL (b := 46) (x := 46) rfl s] at hc
    rcases joinS_mem 46 _ c hc with rfl | ⟨w, hw, hcw⟩
    · exact .inr rfl
    · left
      obtain ⟨i, hi, rfl⟩ := List.getElem_of_mem hw
      have := h i (by omega) hi
      rw [show (splitL s 46)[i]! = (splitL s 46)[i] by simp [hi]] at this
      simp only [tagOK, tagB, Bool.and_eq_true] at this
      exact (allF_mem tch _).1 this.1.2 c hcw
theorem tags_no {s : Str} {p : Bool} (h : tagsB s p = true) {c : UInt8} (hc : c ∈ s) : c.toNat ≠ 43 ∧ c.toNat ≠ 32 ∧ c.toNat ≠ 10 := by
  rcases tags_mem h hc with h | rfl
  · simp only [tch, lowB, digitB, Bool.or_eq_true, Bool.and_eq_true, decide_eq_true_eq] at h
    omega
  · decide
theorem digit_no {c : UInt8} (h : digitB c.toNat = true) : c.toNat ≠ 46 ∧ c.toNat ≠ 45 ∧ c.toNat ≠ 43 ∧ c.toNat ≠ 32 ∧ c.toNat ≠ 10 := by
  simp only [digitB, Bool.and_eq_true, decide_eq_true_eq] at h; omega
def coreS (v : Ver) : Str := decN v.major.toNat ++ [46] ++ decN v.minor.toNat ++ [46] ++ decN v.patch.toNat
theorem core_no (v : Ver) {c : UInt8} (h : c ∈ coreS v) : c.toNat ≠ 45 ∧ c.toNat ≠ 43 ∧ c.toNat ≠ 32 ∧ c.toNat ≠ 10 := by
  simp only [coreS, List.mem_append, List.mem_singleton] at h
  rcases h with (((h | rfl) | h) | rfl) | h
  · exact (digit_no (decN_digits _ c h)).2
  · decide
  · exact (digit_no (decN_digits _ c h)).2
  · decide
  · exact (digit_no (decN_digits _ c h)).2
theorem verS_core (v : Ver) : verS v = coreS v ++ (if v.pre = [] then [] else 45 :: v.pre) ++ (if v.build = [] then [] else 43 :: v.build) := rfl
theorem verS_no {v : Ver} (h : verB v = true) {c : UInt8} (hc : c ∈ verS v) : c.toNat ≠ 32 ∧ c.toNat ≠ 10 := by
  simp only [verB, Bool.and_eq_true] at h
  rw [verS_core] at hc
  simp only [List.mem_append] at hc
  rcases hc with (hc | hc) | hc
  · exact (core_no v hc).2.2
  · split at hc
    · cases hc
    · rcases List.mem_cons.1 hc with rfl | hc
      · decide
      · exact (tags_no h.1.2 hc).2
  · split at hc
    · cases hc
    · rcases List.mem_cons.1 hc with rfl | hc
      · decide
      · exact (tags_no h.2 hc).2
theorem verQ_P {v : Ver} (h : verB v = true) : verQ (verP v) = some v := by
  have h0 := h
  simp only [verB, fitB, Bool.and_eq_true, decide_eq_true_eq] at h
  obtain ⟨⟨⟨⟨h1, h2⟩, h3⟩, h4⟩, h5⟩ := h
  have e0 : verP v = verS v := by rw [verP, if_pos h0]

  have hcp : ∀ c ∈ coreS v ++ (if v.pre = [] then [] else 45 :: v.pre), (c.toNat : Int) ≠ 43 := fun c hc => by
    rcases List.mem_append.1 hc with hc | hc
    · have := (core_no v hc).2.1; omega
    · split at hc
      · cases hc
      · rcases List.mem_cons.1 hc with rfl | hc
        · decide
        · have := (tags_no h4 hc).1; omega
  have e1 : behindL (verS v) 43 = (v.build, coreS v ++ (if v.pre = [] then [] else 45 :: v.pre)) := by
    rw [verS_core]
    generalize coreS v ++ (if v.pre = [] then [] else 45 :: v.pre) = q at hcp ⊢
    split
    · rename_i hb; rw [List.append_nil, behindL_no hcp, hb]
    · exact behindL_app hcp (by decide)
  have hc45 : ∀ c ∈ coreS v, (c.toNat : Int) ≠ 45 := fun c hc => by have := (core_no v hc).1; omega
  have e2 : behindL (coreS v ++ (if v.pre = [] then [] else 45 :: v.pre)) 45 = (v.pre, coreS v) := by
    split
    · rename_i hb; rw [List.append_nil, behindL_no hc45, hb]
    · exact behindL_app hc45 (by decide)
  have e3 : splitL (coreS v) 46 = [decN v.major.toNat, decN v.minor.toNat, decN v.patch.toNat] := by
    have := splitL_join (b := 46) (x := 46) rfl (ws := [decN v.major.toNat, decN v.minor.toNat, decN v.patch.toNat]) (by simp) (fun w hw c hc => by
      have hd : digitB c.toNat = true := by
        simp only [List.mem_cons, List.not_mem_nil, or_false] at hw
        rcases hw with rfl | rfl | rfl <;> exact decN_digits _ c hc
      have := (digit_no hd).1; omega)
    rw [← this]
    simp [joinS, coreS]
  have n1 := numB_decN (n := v.major.toNat) (by omega)
  have n2 := numB_decN (n := v.minor.toNat) (by omega)
  have n3 := numB_decN (n := v.patch.toNat) (by omega)
  have o1 := numO_decN (n := v.major.toNat) (by omega)
  have o2 := numO_decN (n := v.minor.toNat) (by omega)
  have o3 := numO_decN (n := v.patch.toNat) (by omega)
  have ev : (⟨((v.major.toNat : Nat) : Int), ((v.minor.toNat : Nat) : Int), ((v.patch.toNat : Nat) : Int), v.pre, v.build⟩ : Ver) = v := by
    obtain ⟨a, b, c, d, e⟩ := v
    simp only [Ver.mk.injEq, and_self, and_true]
    simp only at h1 h2 h3
    omega
  rw [e0]
  simp only [verQ, e1, e2, e3]
  rw [if_pos ⟨rfl, n1, n2, n3⟩]
  simp only [List.getElem!_cons_zero, List.getElem!_cons_succ, o1, o2, o3, ev]
  rw [if_pos ⟨h0, e0⟩]
end Go.Abs
end
section
namespace Go.Abs
theorem snoc_ind {Q : Str → Prop} (h0 : Q []) (h1 : ∀ s c, Q s → Q (s ++ [c])) (s : Str) : Q s := by
  have : ∀ r : Str, Q r.reverse := by
    intro r
    induction r with
    | nil => exact h0
    | cons c r ih => rw [List.reverse_cons]; exact h1 _ _ ih
  simpa using this s.reverse
theorem nib_nat (N i : Nat) (h : N < 2 ^ 64) : nib (N : Int) i = N / 16 ^ i % 16 := by
  unfold nib shr64
  have e1 : (N : Int).fdiv (2 ^ (4 * i)) = ((N / 2 ^ (4 * i) : Nat) : Int) := by
    have hp : (0 : Int) ≤ 2 ^ (4 * i) := Int.pow_nonneg (by omega)
    rw [Int.fdiv_eq_ediv_of_nonneg _ hp]
    simp
  rw [e1, BitVec.ofInt_natCast, BitVec.toNat_and, BitVec.toNat_ofNat]
  have h2 : N / 2 ^ (4 * i) < 2 ^ 64 := Nat.lt_of_le_of_lt (Nat.div_le_self _ _) h
  rw [Nat.mod_eq_of_lt h2]
  have e2 : (15#64).toNat = 2 ^ 4 - 1 := rfl
  rw [e2, Nat.and_two_pow_sub_one_eq_mod, show (16 : Nat) ^ i = 2 ^ (4 * i) by rw [Nat.pow_mul]]
def hv (c : UInt8) : Nat := if digitB c.toNat = true then c.toNat - 48 else c.toNat - 87
theorem hexV_hv {c : UInt8} (h : hexB c.toNat = true) : hexV c.toNat = (hv c : Int) ∧ hv c < 16 := by
  simp only [hexB, digitB, Bool.or_eq_true, Bool.and_eq_true, decide_eq_true_eq] at h
  unfold hexV hv
  split <;> rename_i hd <;> simp only [digitB, Bool.and_eq_true, decide_eq_true_eq] at hd <;> omega
theorem or_step {N h : Nat} (hN : N < 2 ^ 60) (hh : h < 16) : or64 (shl64 (N : Int) 4) (h : Int) = ((N * 16 + h : Nat) : Int) := by
  have e1 : shl64 (N : Int) 4 = ((N * 16 : Nat) : Int) := by
    unfold shl64
    rw [IntKind.wrap_u64]; omega
  rw [e1]
  unfold or64
  rw [BitVec.ofInt_natCast, BitVec.ofInt_natCast, BitVec.toNat_or, BitVec.toNat_ofNat, BitVec.toNat_ofNat, Nat.mod_eq_of_lt (show N * 16 < 2 ^ 64 by omega), Nat.mod_eq_of_lt (show h < 2 ^ 64 by omega)]
  have e2 : N * 16 ||| h = N * 16 + h := by
    have := Nat.shiftLeft_add_eq_or_of_lt (show h < 2 ^ 4 by omega) N
    rw [Nat.shiftLeft_eq] at this
    exact this.symm
  rw [e2, IntKind.wrap_u64]; omega
def hval (s : Str) : Nat := s.foldl (fun n c => n * 16 + hv c) 0
theorem hval_snoc (s : Str) (c : UInt8) : hval (s ++ [c]) = hval s * 16 + hv c := by simp [hval, List.foldl_append]
theorem hval_lt : ∀ (s : Str), (∀ c ∈ s, hexB c.toNat = true) → hval s < 16 ^ s.length := by
  intro s
  refine snoc_ind (Q := fun s => (∀ c ∈ s, hexB c.toNat = true) → hval s < 16 ^ s.length) (fun _ => by simp [hval]) (fun s c ih h => ?_) s
  · have h1 := ih fun d hd => h d (by simp [hd])
    have h2 := (hexV_hv (h c (by simp))).2
    rw [hval_snoc, List.length_append, List.length_singleton, Nat.pow_succ]; omega
theorem readF_val : ∀ (s : Str), s.length ≤ 16 → (∀ c ∈ s, hexB c.toNat = true) → readF s = (hval s : Int) := by
  intro s
  refine snoc_ind (Q := fun s => s.length ≤ 16 → (∀ c ∈ s, hexB c.toNat = true) → readF s = (hval s : Int)) (fun _ _ => rfl) (fun s c ih hl h => ?_) s
  · rw [List.length_append, List.length_singleton] at hl
    have hs := fun d (hd : d ∈ s) => h d (by simp [hd])
    have h1 := ih (by omega) hs
    have h2 := hexV_hv (h c (by simp))
    have h3 := hval_lt s hs
    have h4 : 16 ^ s.length ≤ 16 ^ 15 := Nat.pow_le_pow_right (by omega) (by omega)
    have e : readF (s ++ [c]) = readStep (readF s) c.toNat := by simp [readF, List.foldl_append]
    rw [e, h1, hval_snoc]
    unfold readStep
    rw [h2.1, or_step (by omega) h2.2]
theorem readB_iff (s : Str) : readB s = true ↔ s.length = 16 ∧ ∀ c ∈ s, hexB c.toNat = true := by
  unfold readB
  rw [Bool.and_eq_true, decide_eq_true_eq, allF_mem hexB]
theorem hexD_hex {k : Nat} (h : k < 16) : hexB (hexD k).toNat = true ∧ hv (hexD k) = k := by
  have : ∀ k : Fin 16, hexB (hexD k.1).toNat = true ∧ hv (hexD k.1) = k.1 := by decide
  exact this ⟨k, h⟩
theorem textL_hex (n : Int) : ∀ c ∈ textL n, hexB c.toNat = true := fun c hc => by
  simp only [textL, List.mem_map, List.mem_range] at hc
  obtain ⟨j, _, rfl⟩ := hc
  exact (hexD_hex (nib_lt _ _)).1
theorem readB_text (n : Int) : readB (textL n) = true := (readB_iff _).2 ⟨textL_len n, textL_hex n⟩
theorem hval_text (N : Nat) (h : N < 2 ^ 64) : ∀ k, k ≤ 16 → hval ((textL N).take k) = N / 16 ^ (16 - k)
  | 0, _ => by
    rw [List.take_zero]
    rw [Nat.div_eq_of_lt (show N < 16 ^ (16 - 0) by omega)]; rfl
  | k + 1, hk => by
    have ih := hval_text N h k (by omega)
    have e : (textL (N : Int)).take (k + 1) = (textL (N : Int)).take k ++ [hexD (nib N (15 - k))] := textL_succ _ k (by omega)
    rw [e, hval_snoc, ih, (hexD_hex (nib_lt _ _)).2, nib_nat N _ h]
    have e2 : 16 ^ (16 - k) = 16 ^ (15 - k) * 16 := by rw [← Nat.pow_succ]; congr 1; omega
    rw [e2, ← Nat.div_div_eq_div_mul, show 16 - (k + 1) = 15 - k by omega]
    omega
theorem readO_text {n : Int} (h0 : 0 ≤ n) (h1 : n < 18446744073709551616) : readO (textL n) = n := by
  obtain ⟨N, rfl⟩ : ∃ N : Nat, n = N := ⟨n.toNat, by omega⟩
  rw [readO, if_pos (readB_text _), readF_val _ (by rw [textL_len]; omega) (textL_hex _)]
  have := hval_text N (by omega) 16 (by omega)
  rw [List.take_of_length_le (by rw [textL_len]; omega)] at this
  rw [this]; simp
theorem xor64_range (a b : Int) : 0 ≤ xor64 a b ∧ xor64 a b < 18446744073709551616 := by
  unfold xor64
  rw [IntKind.wrap_u64]; omega
theorem sumL_range (s : Str) : 0 ≤ sumL s ∧ sumL s < 18446744073709551616 := xor64_range _ _
end Go.Abs
end
section
namespace Go.Abs
theorem word_ch {s : Str} (h : wordB s = true) {c : UInt8} (hc : c ∈ s) : wch c.toNat = true := by
  simp only [wordB, Bool.and_eq_true] at h
  exact (allF_mem wch s).1 h.2 c hc
theorem word_no {s : Str} (h : wordB s = true) {c : UInt8} (hc : c ∈ s) : c.toNat ≠ 32 ∧ c.toNat ≠ 10 ∧ c.toNat ≠ 45 := by
  have := word_ch h hc
  simp only [wch, lowB, digitB, Bool.or_eq_true, Bool.and_eq_true, decide_eq_true_eq] at this; omega
theorem name_ch {s : Str} (h : nameB s = true) : s ≠ [] ∧ lowB (at8 s 0) = true ∧ ∀ c ∈ s, c.toNat ≠ 32 ∧ c.toNat ≠ 10 := by
  simp only [nameB, Bool.and_eq_true, decide_eq_true_eq, allF_iff] at h
  obtain ⟨⟨⟨⟨h1, h2⟩, h3⟩, h4⟩, h5⟩ := h
  refine ⟨by rintro rfl; simp at h1, h3, fun c hc => ?_⟩
  obtain ⟨i, hi, rfl⟩ := List.getElem_of_mem hc
  rcases Nat.eq_zero_or_pos i with rfl | hp
  · rw [at8_get s 0 hi] at h3
    simp only [lowB, Bool.and_eq_true, decide_eq_true_eq] at h3; omega
  · have := h5 i hp hi
    simp only [nch, Bool.and_eq_true, Bool.or_eq_true, decide_eq_true_eq, at8_get s i hi, lowB, digitB] at this
    omega
theorem dash_no {s : Str} (h : ∀ c ∈ s, c.toNat ≠ 32 ∧ c.toNat ≠ 10) : ∀ c ∈ dashS s, c.toNat ≠ 32 ∧ c.toNat ≠ 10 := by
  intro c hc
  unfold dashS at hc
  split at hc
  · obtain rfl := List.mem_singleton.1 hc
    decide
  · exact h c hc
theorem dash_ne (s : Str) : dashS s ≠ [] := by
  unfold dashS; split <;> simp_all
theorem undash_dash {s : Str} (h : s ≠ [45]) : undashS (dashS s) = s := by
  unfold dashS
  split
  · rename_i h2; subst h2; rfl
  · unfold undashS; rw [if_neg h]
theorem name_ne45 {s : Str} (h : nameB s = true) : s ≠ [45] := by
  rintro rfl
  exact absurd (name_ch h).2.1 (by decide)
theorem word_ne45 {s : Str} (h : wordB s = true) : s ≠ [45] := by
  rintro rfl
  exact absurd h (by decide)
theorem hex_no {c : UInt8} (h : hexB c.toNat = true) : c.toNat ≠ 32 ∧ c.toNat ≠ 10 := by
  simp only [hexB, digitB, Bool.or_eq_true, Bool.and_eq_true, decide_eq_true_eq] at h; omega
def Lkd.wf (x : Lkd) : Prop := 0 ≤ x.sum ∧ x.sum < 18446744073709551616
def wordsOf (x : Lkd) : List Str := [x.name, verP x.v, dashS x.shelf, textL x.sum] ++ x.feats
structure LkdOK (x : Lkd) : Prop where
  name : nameB x.name = true
  v : verB x.v = true
  shelf : x.shelf = [] ∨ nameB x.shelf = true
  zero : x.shelf = [] → x.sum = 0
  feats : ∀ t ∈ x.feats, wordB t = true
theorem lkd_ok {x : Lkd} (h : lkdB x = true) : LkdOK x := by
  simp only [lkdB, Bool.and_eq_true, Bool.not_eq_true', Bool.and_eq_false_iff, decide_eq_false_iff_not, decide_eq_true_eq, Bool.not_eq_false', ne_eq, Decidable.not_not, allF_iff] at h
  obtain ⟨⟨⟨⟨⟨h1, h2⟩, h3⟩, h4⟩, h5⟩, h6⟩ := h
  refine ⟨h1, h2, h3, fun he => ?_, fun t ht => ?_⟩
  · rcases h4 with h4 | h4
    · exact absurd he h4
    · exact h4
  · obtain ⟨i, hi, rfl⟩ := List.getElem_of_mem ht
    have := h6 i (by omega) hi
    simp only [featB, Bool.and_eq_true] at this
    simpa [hi] using this.1
theorem words_no {x : Lkd} (h : LkdOK x) : ∀ w ∈ wordsOf x, ∀ c ∈ w, c.toNat ≠ 32 ∧ c.toNat ≠ 10 := by
  intro w hw c hc
  simp only [wordsOf, List.cons_append, List.nil_append, List.mem_cons] at hw
  rcases hw with rfl | rfl | rfl | rfl | hw
  · exact (name_ch h.name).2.2 c hc
  · rw [verP, if_pos h.v] at hc
    exact verS_no h.v hc
  · refine dash_no (fun d hd => ?_) c hc
    rcases h.shelf with e | e
    · rw [e] at hd; cases hd
    · exact (name_ch e).2.2 d hd
  · exact hex_no (textL_hex _ c hc)
  · have := word_no (h.feats w hw) hc
    exact ⟨this.1, this.2.1⟩
theorem split_lkd {x : Lkd} (h : LkdOK x) : splitL (lkdS x) 32 = wordsOf x := by
  rw [← line_join]
  exact splitL_join (b := 32) (x := 32) rfl (by simp) fun w hw c hc => by have := (words_no h w hw c hc).1; omega
theorem lkdX_S {x : Lkd} (h : LkdOK x) (hw : x.wf) : lkdX (lkdS x) = x := by
  have hsh : x.shelf ≠ [45] := by
    rcases h.shelf with e | e
    · rw [e]; decide
    · exact name_ne45 e
  unfold lkdX
  rw [split_lkd h]
  simp only [wordsOf, List.cons_append, List.nil_append, List.getElem!_cons_zero, List.getElem!_cons_succ, List.drop_succ_cons, List.drop_zero, verQ_P h.v, Option.getD_some, undash_dash hsh, readO_text hw.1 hw.2]
theorem lkdP_S {x : Lkd} (h : LkdOK x) : lkdP (lkdS x) = true := by
  unfold lkdP
  rw [split_lkd h, Bool.and_eq_true, decide_eq_true_eq, Bool.not_eq_true', decide_eq_false_iff_not]
  exact ⟨by simp [wordsOf], dash_ne _⟩
theorem lkdOK_S {x : Lkd} (hb : lkdB x = true) (hw : x.wf) : lkdOK (lkdS x) = true := by
  have h := lkd_ok hb
  unfold lkdOK
  rw [lkdP_S h, lkdX_S h hw, hb, split_lkd h]
  simp only [wordsOf, List.cons_append, List.nil_append, List.getElem!_cons_zero, List.getElem!_cons_succ, verQ_P h.v, readB_text]
  rfl
theorem lkdR_S {x : Lkd} (hb : lkdB x = true) (hw : x.wf) : lkdR (lkdS x) = x := by
  have h := lkd_ok hb
  rw [lkdR, if_pos (lkdP_S h), lkdX_S h hw]
theorem lkdS_no {x : Lkd} (h : LkdOK x) : ∀ c ∈ lkdS x, c ≠ 10 := by
  intro c hc
  rw [← line_join] at hc
  rcases joinS_mem 32 _ c hc with rfl | ⟨w, hw, hcw⟩
  · decide
  · rintro rfl
    exact (words_no h w hw 10 hcw).2 rfl
theorem lkdS_count (x : Lkd) : 3 ≤ (lkdS x).count 32 := by
  simp only [lkdS, List.count_append]
  have : ([32] : Str).count 32 = 1 := rfl
  omega
theorem cut_lkd (x : Lkd) (h : (cutPre (lkdS x) sumW).2 = true) : (cutPre (lkdS x) sumW).1.contains 32 = true := by
  unfold cutPre at h ⊢
  split at h
  · rename_i hp
    rw [if_pos hp]
    obtain ⟨r, hr⟩ := List.isPrefixOf_iff_prefix.1 hp
    have hc := lkdS_count x
    rw [← hr, List.count_append, show sumW.count 32 = 1 from rfl] at hc
    have : (lkdS x).drop sumW.length = r := by rw [← hr]; simp
    show ((lkdS x).drop sumW.length).contains 32 = true
    rw [this, List.contains_iff_mem]
    exact List.count_pos_iff.1 (by omega)
  · cases h
theorem ln_app {s t r : Str} {a n : Nat} (h : s.drop a = t ++ 10 :: r) (ht : ∀ c ∈ t, c ≠ 10) : (⟨s, a, n⟩ : Rdr).ln = (t, r, true) ∧ (⟨s, a, n⟩ : Rdr).nxt = ⟨s, a + (t.length + 1), n + 1⟩ ∧ s.drop (a + (t.length + 1)) = r := by
  have e : (⟨s, a, n⟩ : Rdr).ln = (t, r, true) := by
    show cutL (s.drop a) 10 = _
    rw [h]; exact cutL_app ht
  refine ⟨e, ?_, ?_⟩
  · unfold Rdr.nxt
    rw [e]; rfl
  · rw [← List.drop_drop, h, show t ++ 10 :: r = (t ++ [10]) ++ r by simp]
    rw [List.drop_append_of_le_length (by simp)]
    simp
theorem sumW_no (n : Int) : ∀ c ∈ sumW ++ textL n, c ≠ 10 := by
  intro c hc
  rcases List.mem_append.1 hc with h | h
  · have h2 : ∀ c ∈ sumW, c ≠ 10 := by decide
    exact h2 c h
  · rintro rfl
    exact (hex_no (textL_hex n 10 h)).2 rfl
theorem text_no32 (n : Int) : (textL n).contains 32 = false := by
  rw [Bool.eq_false_iff]
  intro h
  rw [List.contains_iff_mem] at h
  exact (hex_no (textL_hex n 32 h)).1 rfl
theorem cut_sum (n : Int) : cutPre (sumW ++ textL n) sumW = (textL n, true) := by
  unfold cutPre
  rw [if_pos (List.isPrefixOf_iff_prefix.2 ⟨textL n, rfl⟩)]
  simp
theorem linesS_cons (x : Lkd) (r : List Lkd) : linesS (x :: r) = lkdS x ++ 10 :: linesS r := by
  simp [linesS]
theorem parse_lines (e : Env) (s : Str) {m : Int} (hm : 0 ≤ m ∧ m < 18446744073709551616) : ∀ (rest : List Lkd) (f a n : Nat) (ls : List Lkd), rest.length < f →
    s.drop a = linesS rest ++ (sumW ++ textL m ++ [10]) → a ≤ s.length → (∀ i, i < (ls ++ rest).length → lineB (ls ++ rest) i = true) → (ls ++ rest).length ≤ 48 → (∀ x ∈ rest, x.wf) →
    parseL e f ⟨s, a, n⟩ ls = if m = sumL (s.take (a + (linesS rest).length)) then (⟨e, ls ++ rest⟩, 0, 0) else (lckZ, 13, 0)
  | [], f, a, n, ls, hf, hd, ha, _, _, _ => by
    obtain ⟨f, rfl⟩ : ∃ g, f = g + 1 := ⟨f - 1, by simp at hf; omega⟩
    obtain ⟨h1, h2, h3⟩ := ln_app (n := n) (t := sumW ++ textL m) (r := []) (by simpa [linesS] using hd) (sumW_no m)
    have hlen : a + ((sumW ++ textL m).length + 1) = s.length := by
      have := congrArg List.length hd
      simp only [List.length_drop, linesS, List.map_nil, List.flatten_nil, List.nil_append, List.length_append, List.length_singleton] at this
      simp only [List.length_append]; omega
    have hcond : ((cutPre (⟨s, a, n⟩ : Rdr).ln.1 sumW).2 && (⟨s, a, n⟩ : Rdr).ln.2.2 && !(cutPre (⟨s, a, n⟩ : Rdr).ln.1 sumW).1.contains 32) = true := by
      rw [h1]; simp only [cut_sum, text_no32]; rfl
    have hrd : readB (cutPre (⟨s, a, n⟩ : Rdr).ln.1 sumW).1 = true := by rw [h1]; simp only [cut_sum, readB_text]
    have hro : readO (cutPre (⟨s, a, n⟩ : Rdr).ln.1 sumW).1 = m := by rw [h1]; simp only [cut_sum, readO_text hm.1 hm.2]
    have hend : ¬ (⟨s, a, n⟩ : Rdr).nxt.at' < (⟨s, a, n⟩ : Rdr).s.length := by rw [h2]; show ¬ _ < s.length; simp only; omega
    have e0 : s.take (a + (linesS []).length) = s.take a := rfl
    rw [e0, List.append_nil]
    split
    · rename_i he
      exact parseL_sum4 hcond hrd hend (by rw [hro]; exact he)
    · rename_i he
      exact parseL_sum3 hcond hrd hend (by rw [hro]; exact he)
  | x :: r, f, a, n, ls, hf, hd, ha, hl, h48, hw => by
    obtain ⟨f, rfl⟩ : ∃ g, f = g + 1 := ⟨f - 1, by simp at hf; omega⟩
    have hx := hl ls.length (by simp)
    have hwx := hw x (.head _)
    have e1 : (ls ++ x :: r)[ls.length]! = x := by simp
    rw [lineB, e1, Bool.and_eq_true] at hx
    have hok := lkd_ok hx.1
    obtain ⟨h1, h2, h3⟩ := ln_app (n := n) (t := lkdS x) (r := linesS r ++ (sumW ++ textL m ++ [10])) (by rw [hd, linesS_cons]; simp) (lkdS_no hok)
    have hcond : ((cutPre (⟨s, a, n⟩ : Rdr).ln.1 sumW).2 && (⟨s, a, n⟩ : Rdr).ln.2.2 && !(cutPre (⟨s, a, n⟩ : Rdr).ln.1 sumW).1.contains 32) = false := by
      rw [h1]
      simp only
      cases hc : (cutPre (lkdS x) sumW).2 with
      | false => rfl
      | true => rw [cut_lkd x hc]; rfl
    have hstop : stopB ls (⟨s, a, n⟩ : Rdr).ln.1 (⟨s, a, n⟩ : Rdr).ln.2.2 = false := by
      rw [h1]
      simp only [stopB, lkdOK_S hx.1 hwx, lkdR_S hx.1 hwx, Bool.not_true, Bool.false_or]
      rw [decide_eq_false (show ¬ 48 ≤ ls.length by simp at h48; omega), Bool.false_or]
      have h5 := hx.2
      rw [Bool.not_eq_true'] at h5
      by_cases h0 : 0 < ls.length
      · have e2 : (ls ++ x :: r)[ls.length - 1]! = ls[ls.length - 1]! := by
          have : ls.length - 1 < ls.length := by omega
          simp [this, List.getElem?_append_left this]
        rw [e2] at h5
        exact h5
      · rw [decide_eq_false h0]; rfl
    rw [parseL_next hcond hstop, h2, h1]
    simp only
    rw [lkdR_S hx.1 hwx]
    have hlen : a + ((lkdS x).length + 1) ≤ s.length := by
      have := congrArg List.length hd
      rw [linesS_cons] at this
      simp only [List.length_drop, List.length_append, List.length_cons] at this
      omega
    have ih := parse_lines e s hm r f (a + ((lkdS x).length + 1)) (n + 1) (ls ++ [x]) (by simpa using hf) h3 hlen (by simpa using hl) (by simpa using h48) (fun y hy => hw y (.tail _ hy))
    rw [ih]
    have e3 : a + ((lkdS x).length + 1) + (linesS r).length = a + (linesS (x :: r)).length := by
      rw [linesS_cons]; simp only [List.length_append, List.length_cons]; omega
    rw [e3]
    simp only [List.append_assoc, List.singleton_append]
def platW : Str := [112, 108, 97, 116, 102, 111, 114, 109]
def platL (e : Env) : Str := joinS [32] [platW, dashS e.e0, dashS e.e1, dashS e.e2]
theorem headS_eq (e : Env) : headS e = firstW ++ 10 :: (platL e ++ [10]) := by
  simp [headS, headI, platL, joinS, firstW, platW, Env.at]
structure EnvOK (e : Env) : Prop where
  w : ∀ i, i < 3 → e.at i = [] ∨ wordB (e.at i) = true
theorem env_ok {e : Env} (h : envB e = true) : EnvOK e := by
  simp only [envB, allF_iff, Bool.or_eq_true, decide_eq_true_eq] at h
  exact ⟨fun i hi => h i (by omega) hi⟩
theorem envw_no {e : Env} (h : EnvOK e) (i : Nat) (hi : i < 3) : (∀ c ∈ dashS (e.at i), c.toNat ≠ 32 ∧ c.toNat ≠ 10) ∧ undashS (dashS (e.at i)) = e.at i := by
  rcases h.w i hi with h | h
  · rw [h]; exact ⟨by decide, rfl⟩
  · exact ⟨dash_no fun c hc => ⟨(word_no h hc).1, (word_no h hc).2.1⟩, undash_dash (word_ne45 h)⟩
theorem plat_no {e : Env} (h : EnvOK e) : ∀ w ∈ [platW, dashS e.e0, dashS e.e1, dashS e.e2], ∀ c ∈ w, c.toNat ≠ 32 ∧ c.toNat ≠ 10 := by
  intro w hw
  simp only [List.mem_cons, List.not_mem_nil, or_false] at hw
  rcases hw with rfl | rfl | rfl | rfl
  · decide
  · exact (envw_no h 0 (by omega)).1
  · exact (envw_no h 1 (by omega)).1
  · exact (envw_no h 2 (by omega)).1
theorem split_plat {e : Env} (h : EnvOK e) : splitL (platL e) 32 = [platW, dashS e.e0, dashS e.e1, dashS e.e2] :=
  splitL_join (b := 32) (x := 32) rfl (by simp) fun w hw c hc => by have := (plat_no h w hw c hc).1; omega
theorem envX_S {e : Env} (h : EnvOK e) : envX (platL e) = e := by
  unfold envX
  rw [split_plat h]
  simp only [List.getElem!_cons_zero, List.getElem!_cons_succ]
  have h0 := (envw_no h 0 (by omega)).2
  have h1 := (envw_no h 1 (by omega)).2
  have h2 := (envw_no h 2 (by omega)).2
  simp only [Env.at] at h0 h1 h2
  rw [h0, h1, h2]
theorem envP_S {e : Env} (h : EnvOK e) : envP (platL e) = true := by
  unfold envP
  rw [split_plat h]
  simp only [Bool.and_eq_true, decide_eq_true_eq, allF_iff, Bool.not_eq_true', decide_eq_false_iff_not]
  refine ⟨⟨rfl, rfl⟩, fun i _ hi => ?_⟩
  match i, hi with
  | 0, _ => exact dash_ne _
  | 1, _ => exact dash_ne _
  | 2, _ => exact dash_ne _
theorem envOK_S {e : Env} (h : envB e = true) : envOK (platL e) = true := by
  unfold envOK
  rw [envP_S (env_ok h), envX_S (env_ok h), h]; rfl
theorem envR_S {e : Env} (h : envB e = true) : envR (platL e) = e := by
  rw [envR, if_pos (envP_S (env_ok h)), envX_S (env_ok h)]
theorem platL_no {e : Env} (h : EnvOK e) : ∀ c ∈ platL e, c ≠ 10 := by
  intro c hc
  rcases joinS_mem 32 _ c hc with rfl | ⟨w, hw, hcw⟩
  · decide
  · rintro rfl
    exact (plat_no h w hw 10 hcw).2 rfl
def Lck.wf (l : Lck) : Prop := ∀ x ∈ l.lines, x.wf
theorem lines_le (l : List Lkd) : l.length ≤ (linesS l).length := by
  induction l with
  | nil => simp
  | cons x r ih => rw [linesS_cons]; simp only [List.length_append, List.length_cons]; omega
theorem parse_text {l : Lck} (hl : lckB l = true) (hw : l.wf) {m : Int} (hm : 0 ≤ m ∧ m < 18446744073709551616) (hlen : (bodyS l ++ (sumW ++ textL m ++ [10])).length ≤ 8192) :
    parseX (bodyS l ++ (sumW ++ textL m ++ [10])) = if m = sumL (bodyS l) then (l, 0, 0) else (lckZ, 13, 0) := by
  simp only [lckB, Bool.and_eq_true, decide_eq_true_eq, allF_iff] at hl
  obtain ⟨⟨he, h48⟩, hln⟩ := hl
  generalize hs : bodyS l ++ (sumW ++ textL m ++ [10]) = s at hlen ⊢
  have h0 : s.drop 0 = firstW ++ 10 :: (platL l.env ++ 10 :: (linesS l.lines ++ (sumW ++ textL m ++ [10]))) := by
    rw [List.drop_zero, ← hs]
    unfold bodyS
    rw [headS_eq]; simp
  obtain ⟨a1, a2, a3⟩ := ln_app (n := 0) h0 (by decide)
  obtain ⟨b1, b2, b3⟩ := ln_app (n := 1) a3 (platL_no (env_ok he))
  have hbody : 0 + (firstW.length + 1) + ((platL l.env).length + 1) = (headS l.env).length := by
    rw [headS_eq]; simp only [List.length_append, List.length_cons, List.length_nil]; omega
  rw [hbody] at b2 b3
  have hle : (headS l.env).length ≤ s.length := by rw [← hs]; unfold bodyS; simp only [List.length_append]; omega
  have hfu : l.lines.length < s.length + 1 := by
    have := lines_le l.lines
    rw [← hs]; unfold bodyS; simp only [List.length_append]; omega
  have key := parse_lines l.env s hm l.lines (s.length + 1) (headS l.env).length 2 [] hfu b3 hle (fun i hi => hln i (by omega) hi) h48 hw
  have e2 : s.take ((headS l.env).length + (linesS l.lines).length) = bodyS l := by
    rw [← hs, show (headS l.env).length + (linesS l.lines).length = (bodyS l).length by unfold bodyS; simp]
    simp
  rw [e2] at key
  have f1 : ¬ 8192 < s.length := by omega
  have f2 : ¬ ((⟨s, 0, 0⟩ : Rdr).ln.2.2 = false ∨ (⟨s, 0, 0⟩ : Rdr).ln.1 ≠ firstW) := by rw [a1]; simp
  have f3 : ¬ ((⟨s, 0, 0⟩ : Rdr).nxt.ln.2.2 = false ∨ envOK (⟨s, 0, 0⟩ : Rdr).nxt.ln.1 = false) := by rw [a2, b1]; simp [envOK_S he]
  unfold parseX
  simp only
  rw [if_neg f1, if_neg f2, if_neg f3, a2, b1, b2]
  simp only
  rw [envR_S he]
  exact key
theorem parse_print {l : Lck} (hl : lckB l = true) (hw : l.wf) (hlen : (lckS l).length ≤ 8192) : parseX (lckS l) = (l, 0, 0) := by
  have e : lckS l = bodyS l ++ (sumW ++ textL (sumL (bodyS l)) ++ [10]) := by simp [lckS, sumW]
  rw [e] at hlen ⊢
  rw [parse_text hl hw (sumL_range _) hlen, if_pos rfl]
end Go.Abs
end
section
namespace Go.Abs
end Go.Abs
end
section
namespace Go.Abs
theorem lineM_wf (i : Nat) (g : Gs) : (lineM i g).1.wf := by
  have hv : 0 ≤ (g.nxt.nxt.val 1073741824) ∧ (g.nxt.nxt.val 1073741824) < 1073741824 := Gs.val_range _ _ (by omega)
  show 0 ≤ (sumM g.nxt.nxt.nxt shelM[(g.nxt.val 3).toNat]! (g.nxt.nxt.val 1073741824)).1 ∧ (sumM g.nxt.nxt.nxt shelM[(g.nxt.val 3).toNat]! (g.nxt.nxt.val 1073741824)).1 < _
  generalize g.nxt.nxt.val 1073741824 = su at hv
  unfold sumM
  split
  · simp only; split <;> omega
  · simp only; omega
theorem loopM_wf : ∀ (n i : Nat) (g : Gs) (ls : List Lkd), (∀ x ∈ ls, x.wf) → ∀ x ∈ loopM n i g ls, x.wf
  | 0, _, _, ls, h => h
  | n + 1, i, g, ls, h => by
    refine loopM_wf n (i + 1) _ _ fun x hx => ?_
    unfold stepM at hx
    split at hx
    · exact h x hx
    · rcases List.mem_append.1 hx with hx | hx
      · exact h x hx
      · obtain rfl := List.mem_singleton.1 hx
        exact lineM_wf _ _
theorem lockM_wf (ks : List Int) : (lockM ks).wf := loopM_wf _ _ _ _ (fun x hx => by cases hx)
theorem prE_0 {l : Lck} (h : prE l = 0) : lckB l = true ∧ (lckS l).length ≤ 8192 ∧ prS l = lckS l := by
  unfold prE at h
  split at h
  · rename_i h1
    split at h
    · rename_i h2
      exact ⟨h1, h2, by rw [prS, if_pos ⟨h1, h2⟩]⟩
    · exact absurd h (by decide)
  · exact absurd h (by decide)
theorem lckS_tail (l : Lck) : lckS l = bodyS l ++ (sumW ++ textL (sumL (bodyS l)) ++ [10]) := by simp [lckS, sumW]
theorem lckS_len (l : Lck) : (lckS l).length = (bodyS l).length + 21 := by
  rw [lckS_tail]; simp only [List.length_append, textL_len, List.length_singleton]; rfl
theorem prS_21 {l : Lck} (h : prE l = 0) : 21 ≤ (prS l).length := by
  rw [(prE_0 h).2.2, lckS_len]; omega
theorem prS_take {l : Lck} (h : prE l = 0) : (prS l).take ((prS l).length - 21) = bodyS l := by
  rw [(prE_0 h).2.2, lckS_len, Nat.add_sub_cancel, lckS_tail]
  exact List.take_left' rfl
theorem prS_drop {l : Lck} (h : prE l = 0) : (prS l).drop ((prS l).length - 21) = sumW ++ textL (sumL (bodyS l)) ++ [10] := by
  rw [(prE_0 h).2.2, lckS_len, Nat.add_sub_cancel, lckS_tail]
  exact List.drop_left' rfl
theorem sums_parse {a b : Lck} (ha : prE a = 0) (hb : prE b = 0) (hw : a.wf) (hne : ¬ sumL (bodyS a) = sumL (bodyS b)) :
    parseX ((prS a).take ((prS a).length - 21) ++ (prS b).drop ((prS b).length - 21)) = (lckZ, 13, 0) := by
  rw [prS_take ha, prS_drop hb]
  obtain ⟨h1, h2, _⟩ := prE_0 ha
  rw [lckS_len] at h2
  rw [parse_text h1 hw (sumL_range _) (by simp only [List.length_append, textL_len, List.length_singleton]; show _ + (4 + 16 + 1) ≤ _; omega), if_neg (fun h => hne h.symm)]
theorem print_back {a : Lck} (ha : prE a = 0) (hw : a.wf) : parseX (prS a) = (a, 0, 0) := by
  obtain ⟨h1, h2, h3⟩ := prE_0 ha
  rw [h3]; exact parse_print h1 hw h2
theorem mix_len {a b : Lck} (ha : prE a = 0) (hb : prE b = 0) : ((prS a).take ((prS a).length - 21) ++ (prS b).drop ((prS b).length - 21)).length ≤ 1048576 := by
  rw [prS_take ha, prS_drop hb]
  have h2 := (prE_0 ha).2.1
  rw [lckS_len] at h2
  simp only [List.length_append, textL_len, List.length_singleton]
  show _ + (4 + 16 + 1) ≤ _; omega
end Go.Abs
end
section
namespace Go.Abs
open Go
/-- linchpin/linchpinlaw33.LockSums -/
def law33_LockSums : AFunc := { np := 2, ns := 15, res := [⟨2, none⟩], rsh := [[.a]], body := (.seq (.reg false [⟨.mv (.c (.bool false)), none⟩] [(2, 0)]) (.seq (.seq (.reg false [⟨.mv (.s 0), none⟩, ⟨.len (.l 0), none⟩, ⟨.bin .gtr (.l 1) (.c (.int .i64 60)), none⟩, ⟨.mv (.l 2), none⟩, ⟨.mv (.s 1), some (3, false)⟩, ⟨.len (.l 4), some (3, false)⟩, ⟨.bin .gtr (.l 5) (.c (.int .i64 60)), some (3, false)⟩, ⟨.pick (.l 3) (.c (.bool true)) (.l 6), none⟩] [(3, 7)]) (.cond (.s 3) (.seq (.reg false [⟨.call 119 [] [], none⟩, ⟨.mv (.l 0), none⟩] [(2, 1)]) .ret) .skip)) (.seq (.reg false [⟨.mv (.s 0), none⟩, ⟨.call 160 [(.l 0)] [[.sl 1 [.a]]], none⟩, ⟨.mv (.s 1), none⟩, ⟨.call 160 [(.l 2)] [[.sl 1 [.a]]], none⟩, ⟨.box 4 (.c (.agg [.str [], .str [], .str [], .nils])), none⟩, ⟨.box 4 (.c (.agg [.str [], .str [], .str [], .nils])), none⟩, ⟨.st 4 (.l 4) (.l 1), none⟩, ⟨.st 4 (.l 5) (.l 3), none⟩] [(4, 4), (5, 5)]) (.seq (.reg false [⟨.ld 4 true (.s 4), none⟩, ⟨.call 571 [(.l 0)] [[.a, .a, .a, .sl 9 [.a, .a, .a, .a, .a, .a, .a, .a, .sl 1 [.a]]]], none⟩, ⟨.mv (.l 1), none⟩, ⟨.ext (.l 2) 0, none⟩, ⟨.ext (.l 2) 1, none⟩, ⟨.mv (.l 3), none⟩, ⟨.mv (.l 4), none⟩] [(8, 5), (6, 6)]) (.seq (.reg false [⟨.ld 4 true (.s 5), none⟩, ⟨.call 571 [(.l 0)] [[.a, .a, .a, .sl 9 [.a, .a, .a, .a, .a, .a, .a, .a, .sl 1 [.a]]]], none⟩, ⟨.mv (.l 1), none⟩, ⟨.ext (.l 2) 0, none⟩, ⟨.ext (.l 2) 1, none⟩, ⟨.mv (.l 3), none⟩, ⟨.mv (.l 4), none⟩] [(9, 5), (7, 6)]) (.seq (.seq (.reg true [⟨.mv (.s 6), none⟩, ⟨.bin .neq (.l 0) (.c (.int .i64 0)), none⟩, ⟨.mv (.l 1), none⟩, ⟨.mv (.s 7), some (2, false)⟩, ⟨.bin .neq (.l 3) (.c (.int .i64 0)), some (2, false)⟩, ⟨.pick (.l 2) (.c (.bool true)) (.l 4), none⟩, ⟨.mv (.l 5), none⟩, ⟨.ld 4 true (.s 4), some (6, false)⟩, ⟨.ld 4 true (.s 5), some (6, false)⟩, ⟨.call 117 [(.l 7), (.l 8)] [[.a, .a, .a, .sl 9 [.a, .a, .a, .a, .a, .a, .a, .a, .sl 1 [.a]]], [.a, .a, .a, .sl 9 [.a, .a, .a, .a, .a, .a, .a, .a, .sl 1 [.a]]]], some (6, false)⟩, ⟨.pick (.l 6) (.c (.bool true)) (.l 9), none⟩, ⟨.mv (.l 10), none⟩, ⟨.mv (.s 8), some (11, false)⟩, ⟨.mv (.s 8), some (11, false)⟩, ⟨.lenS (.l 13), some (11, false)⟩, ⟨.bin .sub (.l 14) (.c (.int .i64 21)), some (11, false)⟩, ⟨.slS (.l 12) none (some (.l 15)), some (11, false)⟩, ⟨.s2b (.l 16), some (11, false)⟩, ⟨.call 221 [(.l 17)] [[.sl 1 [.a]]], some (11, false)⟩, ⟨.mv (.s 9), some (11, false)⟩, ⟨.mv (.s 9), some (11, false)⟩, ⟨.lenS (.l 20), some (11, false)⟩, ⟨.bin .sub (.l 21) (.c (.int .i64 21)), some (11, false)⟩, ⟨.slS (.l 19) none (some (.l 22)), some (11, false)⟩, ⟨.s2b (.l 23), some (11, false)⟩, ⟨.call 221 [(.l 24)] [[.sl 1 [.a]]], some (11, false)⟩, ⟨.bin .eql (.l 18) (.l 25), some (11, false)⟩, ⟨.pick (.l 11) (.c (.bool true)) (.l 26), none⟩] [(10, 27)]) (.cond (.s 10) (.seq (.reg false [⟨.call 119 [] [], none⟩, ⟨.mv (.l 0), none⟩] [(2, 1)]) .ret) .skip)) (.seq (.reg true [⟨.mv (.s 8), none⟩, ⟨.mv (.s 8), none⟩, ⟨.lenS (.l 1), none⟩, ⟨.bin .sub (.l 2) (.c (.int .i64 21)), none⟩, ⟨.slS (.l 0) none (some (.l 3)), none⟩, ⟨.mv (.s 9), none⟩, ⟨.mv (.s 9), none⟩, ⟨.lenS (.l 6), none⟩, ⟨.bin .sub (.l 7) (.c (.int .i64 21)), none⟩, ⟨.slS (.l 5) (some (.l 8)) none, none⟩, ⟨.bin .add (.l 4) (.l 9), none⟩, ⟨.call 309 [(.l 10)] [[.a]], none⟩, ⟨.mv (.l 11), none⟩, ⟨.ext (.l 12) 0, none⟩, ⟨.ext (.l 12) 1, none⟩, ⟨.ext (.l 12) 2, none⟩, ⟨.box 4 (.c (.agg [.str [], .str [], .str [], .nils])), none⟩, ⟨.st 4 (.l 16) (.l 13), none⟩, ⟨.mv (.l 14), none⟩, ⟨.mv (.l 15), none⟩] [(11, 18), (12, 19)]) (.seq (.reg false [⟨.mv (.s 8), none⟩, ⟨.call 309 [(.l 0)] [[.a]], none⟩, ⟨.mv (.l 1), none⟩, ⟨.ext (.l 2) 0, none⟩, ⟨.ext (.l 2) 1, none⟩, ⟨.ext (.l 2) 2, none⟩, ⟨.box 4 (.c (.agg [.str [], .str [], .str [], .nils])), none⟩, ⟨.st 4 (.l 6) (.l 3), none⟩, ⟨.mv (.l 4), none⟩, ⟨.mv (.l 5), none⟩] [(14, 6), (13, 8)]) (.seq (.reg false [⟨.mv (.s 11), none⟩, ⟨.bin .eql (.l 0) (.c (.int .i64 13)), none⟩, ⟨.mv (.l 1), none⟩, ⟨.mv (.s 12), some (2, true)⟩, ⟨.bin .eql (.l 3) (.c (.int .i64 0)), some (2, true)⟩, ⟨.pick (.l 2) (.l 4) (.c (.bool false)), none⟩, ⟨.mv (.l 5), none⟩, ⟨.mv (.s 13), some (6, true)⟩, ⟨.bin .eql (.l 7) (.c (.int .i64 0)), some (6, true)⟩, ⟨.pick (.l 6) (.l 8) (.c (.bool false)), none⟩, ⟨.mv (.l 9), none⟩, ⟨.ld 4 true (.s 14), some (10, true)⟩, ⟨.ld 4 true (.s 4), some (10, true)⟩, ⟨.call 117 [(.l 11), (.l 12)] [[.a, .a, .a, .sl 9 [.a, .a, .a, .a, .a, .a, .a, .a, .sl 1 [.a]]], [.a, .a, .a, .sl 9 [.a, .a, .a, .a, .a, .a, .a, .a, .sl 1 [.a]]]], some (10, true)⟩, ⟨.pick (.l 10) (.l 13) (.c (.bool false)), none⟩, ⟨.mv (.l 14), none⟩, ⟨.call 119 [] [], some (15, true)⟩, ⟨.pick (.l 15) (.l 16) (.c (.bool false)), none⟩, ⟨.mv (.l 17), none⟩] [(2, 18)]) .ret))))))))) }
theorem w1187 {Γ : Ctx} (hm : (Γ.at 0).Mono) (h117 : C117 (Γ.at 0)) (h119 : C119 (Γ.at 0)) (h160 : C160 (Γ.at 0)) (h221 : C221 (Γ.at 0)) (h309 : C309 (Γ.at 0)) (h571 : C571 (Γ.at 0)) (ks : List Int) (ls : List Int)  : wpA (Γ.at 0) law33_LockSums.body (Res law33_LockSums (.bool true) : Ex → List Ent → St → Prop) (env0 law33_LockSums [.sl 1 (ks.map (D.int .i64)), .sl 1 (ls.map (D.int .i64))]) ⟨0, []⟩ := by
  show wpA _ _ _ [⟨true, .sl 1 (ks.map (D.int .i64))⟩, ⟨true, .sl 1 (ls.map (D.int .i64))⟩, .un, .un, .un, .un, .un, .un, .un, .un, .un, .un, .un, .un, .un] ⟨0, []⟩
  have hwA := lockM_wf ks
  have hls := (lockM_ok ks).sm (by omega)
  have hbs := (lockM_ok ls).sm (by omega)
  have gA : prE (lockM ks) = 0 → 21 ≤ (prS (lockM ks)).length := prS_21
  have gB : prE (lockM ls) = 0 → 21 ≤ (prS (lockM ls)).length := prS_21
  have lA := prS_len (lockM ks)
  have lB := prS_len (lockM ls)
  refine wp_regseq ?_; refine r_mv ?_; refine reg_end (env' := [_, _, ⟨_, (.bool _)⟩, _, _, _, _, _, _, _, _, _, _, _, _]) ?_; refine wp_assoc ?_; refine wp_regseq ?_; refine r_mv ?_
  refine r_lenM fun hlR1_1 => ?_; replace hlR1_1 := hlR1_1 rfl rfl
  refine r_gtrI ?_; refine r_mv ?_; refine r_mv ?_
  refine r_lenM fun _ => ?_
  refine r_gtrI ?_; refine r_or ?_; refine reg_end (env' := [_, _, _, ⟨_, (.bool _)⟩, _, _, _, _, _, _, _, _, _, _, _]) ?_
  refine wp_condseq (fun hc0 => ?_) (fun hc0 => ?_)
  · try simp only [b0, b1, b2, b3, b4, b5, b6, b7, b8, b9, b10, b11] at hc0
    refine wp_assoc ?_; refine wp_regseq ?_; refine r_call (hc := h119 ) ?_; refine r_mv ?_; refine reg_end (env' := [_, _, ⟨_, (.bool _)⟩, _, _, _, _, _, _, _, _, _, _, _, _]) ?_; refine wp_retseq ?_
    refine res_of trivial q2 q3 (Eq.trans q7 (congrArg D.bool ?_))
    first | rfl | (simp; done)
  · try simp only [b0, b1, b2, b3, b4, b5, b6, b7, b8, b9, b10, b11] at hc0
    refine wp_skipseq ?_; refine wp_regseq ?_; refine r_mv ?_; refine r_call (hc := h160 ks) ?_; refine r_mv ?_; refine r_call (hc := h160 ls) ?_; refine r_box ?_; refine r_box ?_; refine r_stF (Lck.D (lockM ks)) (he := by exact rfl) ?_; refine r_stF (Lck.D (lockM ls)) (he := by exact rfl) ?_; refine reg_end (env' := [_, _, _, _, ⟨_, _⟩, ⟨_, _⟩, _, _, _, _, _, _, _, _, _]) ?_; refine wp_regseq ?_; refine r_ldB (d := Lck.D (lockM ks)) ?_; refine r_call (hc := h571 (lockM ks) hls) ?_; refine r_mv ?_; refine r_ext (.str _) ?_; refine r_ext (.int _ _) ?_; refine r_mv ?_; refine r_mv ?_; refine reg_end (env' := [_, _, _, _, _, _, ⟨_, (.int _ _)⟩, _, ⟨_, (.str _)⟩, _, _, _, _, _, _]) ?_
    refine wp_regseq ?_; refine r_ldB (d := Lck.D (lockM ls)) ?_; refine r_call (hc := h571 (lockM ls) hbs) ?_; refine r_mv ?_; refine r_ext (.str _) ?_; refine r_ext (.int _ _) ?_; refine r_mv ?_; refine r_mv ?_; refine reg_end (env' := [_, _, _, _, _, _, _, ⟨_, (.int _ _)⟩, _, ⟨_, (.str _)⟩, _, _, _, _, _]) ?_; refine wp_assoc ?_; refine wp_regseq ?_; refine r_mv ?_; refine r_neqI ?_; refine r_mv ?_; refine r_mv ?_; refine r_neqI ?_; refine r_or ?_; refine r_mv ?_; refine r_ldB (d := Lck.D (lockM ks)) ?_; refine r_ldB (d := Lck.D (lockM ls)) ?_; refine r_call (hc := h117 (lockM ks) (lockM ls)) ?_
    refine r_or ?_; refine r_mv ?_; refine r_mv ?_; refine r_mv ?_
    refine r_lenS fun _ => ?_
    refine r_sub64 ?_
    refine r_slS_hi ((prS (lockM ks)).length - 21) (hj := fun h => by have := gA (by simp_all); omega) (hb := fun _ => by omega) ?_
    refine r_s2b (s := ((prS (lockM ks)).take ((prS (lockM ks)).length - 21))) ?_
    refine r_call (hc := h221 ((prS (lockM ks)).take ((prS (lockM ks)).length - 21))) (ha := fun _ => congrArg (fun d => [d]) (xV_own1 (q := fun b : UInt8 => D.int .u8 b.toNat) (fun _ => rfl) q7)) (hp := fun _ => ⟨xVO_own1 (q := fun b : UInt8 => D.int .u8 b.toNat) (fun _ => rfl) q7, trivial⟩) ?_
    refine r_mv ?_; refine r_mv ?_
    refine r_lenS fun _ => ?_
    refine r_sub64 ?_
    refine r_slS_hi ((prS (lockM ls)).length - 21) (hj := fun h => by have := gB (by simp_all); omega) (hb := fun _ => by omega) ?_
    refine r_s2b (s := ((prS (lockM ls)).take ((prS (lockM ls)).length - 21))) ?_
    refine r_call (hc := h221 ((prS (lockM ls)).take ((prS (lockM ls)).length - 21))) (ha := fun _ => congrArg (fun d => [d]) (xV_own1 (q := fun b : UInt8 => D.int .u8 b.toNat) (fun _ => rfl) q7)) (hp := fun _ => ⟨xVO_own1 (q := fun b : UInt8 => D.int .u8 b.toNat) (fun _ => rfl) q7, trivial⟩) ?_
    refine r_eqlI ?_; refine r_or ?_; refine reg_end (env' := [_, _, _, _, _, _, _, _, _, _, ⟨_, (.bool _)⟩, _, _, _, _]) ?_
    refine wp_condseq (fun hc1 => ?_) (fun hc1 => ?_)
    · try simp only [b0, b1, b2, b3, b4, b5, b6, b7, b8, b9, b10, b11] at hc1
      refine wp_assoc ?_; refine wp_regseq ?_; refine r_call (hc := h119 ) ?_; refine r_mv ?_; refine reg_end (env' := [_, _, ⟨_, (.bool _)⟩, _, _, _, _, _, _, _, _, _, _, _, _]) ?_; refine wp_retseq ?_
      refine res_of trivial q2 q3 (Eq.trans q7 (congrArg D.bool ?_))
      first | rfl | (simp; done)
    · simp only [Bool.or_eq_false_iff, decide_eq_false_iff_not, Decidable.not_not, ne_eq, Bool.not_eq_false', decide_eq_true_eq] at hc1
      obtain ⟨⟨⟨hA0, hB0⟩, hAB⟩, hsum⟩ := hc1
      rw [prS_take hA0, prS_take hB0] at hsum
      refine wp_skipseq ?_; refine wp_regseq ?_; refine r_mv ?_; refine r_mv ?_
      refine r_lenS fun _ => ?_
      refine r_sub64 ?_
      refine r_slS_hi ((prS (lockM ks)).length - 21) (hj := fun h => by have := gA hA0; omega) (hb := fun _ => by omega) ?_
      refine r_mv ?_; refine r_mv ?_
      refine r_lenS fun _ => ?_
      refine r_sub64 ?_
      refine r_slS_lo ((prS (lockM ls)).length - 21) (hi := fun h => by have := gB hB0; omega) (hb := fun _ => by omega) ?_
      refine r_addS (hb := fun _ => by have := mix_len hA0 hB0; rw [List.length_append] at this; omega) ?_
      refine r_call (hc := h309 (((prS (lockM ks)).take ((prS (lockM ks)).length - 21)) ++ ((prS (lockM ls)).drop ((prS (lockM ls)).length - 21))) (mix_len hA0 hB0)) ?_; rw [sums_parse hA0 hB0 hwA hsum]
      refine r_mv ?_; refine r_ext (Lck.D _) ?_; refine r_ext (.int _ _) ?_; refine r_ext (.int _ _) ?_; refine r_box ?_; refine r_stF (Lck.D lckZ) (he := by exact rfl) ?_; refine r_mv ?_; refine r_mv ?_; refine reg_end (env' := [_, _, _, _, _, _, _, _, _, _, _, ⟨_, (.int _ _)⟩, ⟨_, (.int _ _)⟩, _, _]) ?_; refine wp_regseq ?_; refine r_mv ?_
      refine r_call (hc := h309 (prS (lockM ks)) (by have := (prE_0 hA0).2; rw [this.2]; omega)) ?_; rw [print_back hA0 hwA]
      refine r_mv ?_; refine r_ext (Lck.D _) ?_; refine r_ext (.int _ _) ?_; refine r_ext (.int _ _) ?_; refine r_box ?_; refine r_stF (Lck.D (lockM ks)) (he := by exact rfl) ?_; refine r_mv ?_; refine r_mv ?_; refine reg_end (env' := [_, _, _, _, _, _, _, _, _, _, _, _, _, ⟨_, (.int _ _)⟩, ⟨_, _⟩]) ?_; refine wp_regseq ?_; refine r_mv ?_; refine r_eqlI ?_; refine r_mv ?_; refine r_mv ?_; refine r_eqlI ?_; refine r_and ?_; refine r_mv ?_; refine r_mv ?_; refine r_eqlI ?_; refine r_and ?_; refine r_mv ?_; refine r_ldB (d := Lck.D (lockM ks)) ?_; refine r_ldB (d := Lck.D (lockM ks)) ?_; refine r_call (hc := h117 (lockM ks) (lockM ks)) ?_
      refine r_and ?_; refine r_mv ?_; refine r_call (hc := h119 ) ?_; refine r_and ?_; refine r_mv ?_; refine reg_end (env' := [_, _, ⟨_, (.bool _)⟩, _, _, _, _, _, _, _, _, _, _, _, _]) ?_; refine wp_ret ?_
      refine res_of trivial q2 q3 (Eq.trans q7 (congrArg D.bool ?_))
      first | rfl | (simp; done)
end Go.Abs
end
section
namespace Go.Abs
/-- linchpin/linchpinmade.Place -/
def P25 (ds : List D) : Prop := ∃ (v : Int) (n : Int), ds = [.int .i64 v, .int .i64 n] ∧ (n ≤ 9223372036854775807)
def V25 (ds : List D) : D := let v := unI (ds.getD 0 .any); let n := unI (ds.getD 1 .any); (.int .i64 (placeI v n) : D)
theorem V25_eq (v : Int) (n : Int) : V25 [.int .i64 v, .int .i64 n] = .int .i64 (placeI v n) := by
  have e0 : unI (.int .i64 v) = v := rfl
  have e1 : unI (.int .i64 n) = n := rfl
  show (fun (v : Int) (n : Int) => (.int .i64 (placeI v n) : D)) (unI (.int .i64 v)) (unI (.int .i64 n)) = _
  rw [e0, e1]
/-- linchpin/linchpinmade.Env -/
def P29 (ds : List D) : Prop := ∃ (n : Int), ds = [.int .i64 n]
def V29 (ds : List D) : D := let n := unI (ds.getD 0 .any); (Env.D (envM n) : D)
theorem V29_eq (n : Int) : V29 [.int .i64 n] = Env.D (envM n) := by
  have e0 : unI (.int .i64 n) = n := rfl
  show (fun (n : Int) => (Env.D (envM n) : D)) (unI (.int .i64 n)) = _
  rw [e0]
/-- linchpin/linchpinmade.BentLock -/
def P93 (ds : List D) : Prop := ∃ (l : Lck) (pa : Int) (pw : Int) (pb : Int), ds = [Lck.D l, .int .i64 pa, .int .i64 pw, .int .i64 pb] ∧ (l.sm)
def V93 (ds : List D) : D := let l := unLck (ds.getD 0 .any); let pa := unI (ds.getD 1 .any); let pw := unI (ds.getD 2 .any); let pb := unI (ds.getD 3 .any); (Lck.D (bentM l pa pw pb) : D)
theorem V93_eq (l : Lck) (pa : Int) (pw : Int) (pb : Int) : V93 [Lck.D l, .int .i64 pa, .int .i64 pw, .int .i64 pb] = Lck.D (bentM l pa pw pb) := by
  have e0 : unLck (Lck.D l) = l := unLck_D l
  have e1 : unI (.int .i64 pa) = pa := rfl
  have e2 : unI (.int .i64 pw) = pw := rfl
  have e3 : unI (.int .i64 pb) = pb := rfl
  show (fun (l : Lck) (pa : Int) (pw : Int) (pb : Int) => (Lck.D (bentM l pa pw pb) : D)) (unLck (Lck.D l)) (unI (.int .i64 pa)) (unI (.int .i64 pw)) (unI (.int .i64 pb)) = _
  rw [e0, e1, e2, e3]
/-- linchpin/lock.Keeps -/
def P101 (ds : List D) : Prop := ∃ (l : Lck), ds = [Lck.D l] ∧ (l.sm)
def V101 (ds : List D) : D := let l := unLck (ds.getD 0 .any); (.sl 6 ((keepsL l.lines).map Kp.D) : D)
theorem V101_eq (l : Lck) : V101 [Lck.D l] = .sl 6 ((keepsL l.lines).map Kp.D) := by
  have e0 : unLck (Lck.D l) = l := unLck_D l
  show (fun (l : Lck) => (.sl 6 ((keepsL l.lines).map Kp.D) : D)) (unLck (Lck.D l)) = _
  rw [e0]
/-- (*linchpin/linchpinmade.G).Next -/
def P109 (d : D) (ds : List D) : Prop := ∃ (g : Gs) (n : Int), d = Gs.D g ∧ ds = [.int .i64 n] ∧ (n ≤ 9223372036854775807) ∧ (0 ≤ g.i ∧ g.i ≤ 1000000)
def V109 (d : D) (ds : List D) : D := let g := unGs d; let n := unI (ds.getD 0 .any); (.int .i64 (g.val n) : D)
theorem V109_eq (g : Gs) (n : Int) : V109 (Gs.D g) [.int .i64 n] = .int .i64 (g.val n) := by
  have e : unGs (Gs.D g) = g := unGs_D g
  show (fun (g : Gs) (n : Int) => (.int .i64 (g.val n) : D)) (unGs (Gs.D g)) (unI (.int .i64 n)) = _
  rw [e]; rfl
def S109 (d : D) (ds : List D) : D := let g := unGs d; let n := unI (ds.getD 0 .any); (Gs.D g.nxt : D)
theorem S109_eq (g : Gs) (n : Int) : S109 (Gs.D g) [.int .i64 n] = Gs.D g.nxt := by
  have e : unGs (Gs.D g) = g := unGs_D g
  show (fun (g : Gs) (n : Int) => (Gs.D g.nxt : D)) (unGs (Gs.D g)) (unI (.int .i64 n)) = _
  rw [e]
/-- linchpin/linchpinmade.Names -/
def P111 (ds : List D) : Prop := ds = []
def V111 (ds : List D) : D := (.sl 1 (namesM.map D.str) : D)
theorem V111_eq  : V111 [] = .sl 1 (namesM.map D.str) := by
  rfl
/-- linchpin/linchpinmade.Versions -/
def P112 (ds : List D) : Prop := ds = []
def V112 (ds : List D) : D := (.sl 5 (versM.map Ver.D) : D)
theorem V112_eq  : V112 [] = .sl 5 (versM.map Ver.D) := by
  rfl
/-- linchpin/linchpinref33.Same -/
def P117 (ds : List D) : Prop := ∃ (a : Lck) (b : Lck), ds = [Lck.D a, Lck.D b]
def V117 (ds : List D) : D := let a := unLck (ds.getD 0 .any); let b := unLck (ds.getD 1 .any); (.bool (decide (a = b)) : D)
theorem V117_eq (a : Lck) (b : Lck) : V117 [Lck.D a, Lck.D b] = .bool (decide (a = b)) := by
  have e0 : unLck (Lck.D a) = a := unLck_D a
  have e1 : unLck (Lck.D b) = b := unLck_D b
  show (fun (a : Lck) (b : Lck) => (.bool (decide (a = b)) : D)) (unLck (Lck.D a)) (unLck (Lck.D b)) = _
  rw [e0, e1]
/-- linchpin/linchpinlaw33.awake -/
def P119 (ds : List D) : Prop := ds = []
def V119 (ds : List D) : D := (.bool true : D)
theorem V119_eq  : V119 [] = .bool true := by
  rfl
/-- strings.Split -/
def P124 (ds : List D) : Prop := ∃ (s : Str) (b : UInt8), ds = [.str s, .str [b]] ∧ (s.length ≤ 1048576)
def V124 (ds : List D) : D := let s := unS (ds.getD 0 .any); let b := unSep (ds.getD 1 .any); (.sl 1 ((splitL s b.toNat).map D.str) : D)
theorem V124_eq (s : Str) (b : UInt8) : V124 [.str s, .str [b]] = .sl 1 ((splitL s b.toNat).map D.str) := by
  have e0 : unS (.str s) = s := rfl
  have e1 : unSep (.str [b]) = b := rfl
  show (fun (s : Str) (b : UInt8) => (.sl 1 ((splitL s b.toNat).map D.str) : D)) (unS (.str s)) (unSep (.str [b])) = _
  rw [e0, e1]
/-- linchpin/mark.EnvMay -/
def P138 (ds : List D) : Prop := ∃ (e : Env), ds = [Env.D e]
def V138 (ds : List D) : D := let e := unEnv (ds.getD 0 .any); (.bool (envB e) : D)
theorem V138_eq (e : Env) : V138 [Env.D e] = .bool (envB e) := by
  have e0 : unEnv (Env.D e) = e := rfl
  show (fun (e : Env) => (.bool (envB e) : D)) (unEnv (Env.D e)) = _
  rw [e0]
/-- linchpin/linchpinref10.EnvMay -/
def P144 (ds : List D) : Prop := ∃ (e : Env), ds = [Env.D e]
def V144 (ds : List D) : D := let e := unEnv (ds.getD 0 .any); (.bool (envB e) : D)
theorem V144_eq (e : Env) : V144 [Env.D e] = .bool (envB e) := by
  have e0 : unEnv (Env.D e) = e := rfl
  show (fun (e : Env) => (.bool (envB e) : D)) (unEnv (Env.D e)) = _
  rw [e0]
/-- linchpin/linchpinmade.At -/
def P159 (ds : List D) : Prop := ∃ (l : List Int) (i : Int), ds = [.sl 1 (l.map (D.int .i64)), .int .i64 i]
def V159 (ds : List D) : D := let l := (unL unI) (ds.getD 0 .any); let i := unI (ds.getD 1 .any); (.int .i64 (atI l i) : D)
theorem V159_eq (l : List Int) (i : Int) : V159 [.sl 1 (l.map (D.int .i64)), .int .i64 i] = .int .i64 (atI l i) := by
  have e0 : (unL unI) (.sl 1 (l.map (D.int .i64))) = l := unL_map (fun x => rfl) 1 l
  have e1 : unI (.int .i64 i) = i := rfl
  show (fun (l : List Int) (i : Int) => (.int .i64 (atI l i) : D)) ((unL unI) (.sl 1 (l.map (D.int .i64)))) (unI (.int .i64 i)) = _
  rw [e0, e1]
/-- linchpin/linchpinmade.Lock -/
def P160 (ds : List D) : Prop := ∃ (ks : List Int), ds = [.sl 1 (ks.map (D.int .i64))]
def V160 (ds : List D) : D := let ks := (unL unI) (ds.getD 0 .any); (Lck.D (lockM ks) : D)
theorem V160_eq (ks : List Int) : V160 [.sl 1 (ks.map (D.int .i64))] = Lck.D (lockM ks) := by
  have e0 : (unL unI) (.sl 1 (ks.map (D.int .i64))) = ks := unL_map (fun x => rfl) 1 ks
  show (fun (ks : List Int) => (Lck.D (lockM ks) : D)) ((unL unI) (.sl 1 (ks.map (D.int .i64)))) = _
  rw [e0]
/-- linchpin/linchpinref33.May -/
def P189 (ds : List D) : Prop := ∃ (l : Lck), ds = [Lck.D l] ∧ (l.sm)
def V189 (ds : List D) : D := let l := unLck (ds.getD 0 .any); (.bool (lckB l) : D)
theorem V189_eq (l : Lck) : V189 [Lck.D l] = .bool (lckB l) := by
  have e0 : unLck (Lck.D l) = l := unLck_D l
  show (fun (l : Lck) => (.bool (lckB l) : D)) (unLck (Lck.D l)) = _
  rw [e0]
/-- linchpin/linchpinref33.Find -/
def P190 (ds : List D) : Prop := ∃ (l : Lck) (nm : Str), ds = [Lck.D l, .str nm]
def V190 (ds : List D) : D := let l := unLck (ds.getD 0 .any); let nm := unS (ds.getD 1 .any); (.int .i64 (findI l.lines nm 0) : D)
theorem V190_eq (l : Lck) (nm : Str) : V190 [Lck.D l, .str nm] = .int .i64 (findI l.lines nm 0) := by
  have e0 : unLck (Lck.D l) = l := unLck_D l
  have e1 : unS (.str nm) = nm := rfl
  show (fun (l : Lck) (nm : Str) => (.int .i64 (findI l.lines nm 0) : D)) (unLck (Lck.D l)) (unS (.str nm)) = _
  rw [e0, e1]
/-- linchpin/ident.Name -/
def P208 (ds : List D) : Prop := ∃ (s : Str), ds = [.str s]
def V208 (ds : List D) : D := let s := unS (ds.getD 0 .any); (.bool (nameB s) : D)
theorem V208_eq (s : Str) : V208 [.str s] = .bool (nameB s) := by
  have e0 : unS (.str s) = s := rfl
  show (fun (s : Str) => (.bool (nameB s) : D)) (unS (.str s)) = _
  rw [e0]
/-- linchpin/version.May -/
def P209 (ds : List D) : Prop := ∃ (v : Ver), ds = [Ver.D v] ∧ (v.sm)
def V209 (ds : List D) : D := let v := unVer (ds.getD 0 .any); (.bool (verB v) : D)
theorem V209_eq (v : Ver) : V209 [Ver.D v] = .bool (verB v) := by
  have e0 : unVer (Ver.D v) = v := rfl
  show (fun (v : Ver) => (.bool (verB v) : D)) (unVer (Ver.D v)) = _
  rw [e0]
/-- linchpin/linchpinref1.Name -/
def P216 (ds : List D) : Prop := ∃ (s : Str), ds = [.str s]
def V216 (ds : List D) : D := let s := unS (ds.getD 0 .any); (.bool (nameB s) : D)
theorem V216_eq (s : Str) : V216 [.str s] = .bool (nameB s) := by
  have e0 : unS (.str s) = s := rfl
  show (fun (s : Str) => (.bool (nameB s) : D)) (unS (.str s)) = _
  rw [e0]
/-- linchpin/linchpinref2.May -/
def P217 (ds : List D) : Prop := ∃ (v : Ver), ds = [Ver.D v] ∧ (v.sm)
def V217 (ds : List D) : D := let v := unVer (ds.getD 0 .any); (.bool (verB v) : D)
theorem V217_eq (v : Ver) : V217 [Ver.D v] = .bool (verB v) := by
  have e0 : unVer (Ver.D v) = v := rfl
  show (fun (v : Ver) => (.bool (verB v) : D)) (unVer (Ver.D v)) = _
  rw [e0]
/-- linchpin/digest.Sum -/
def P220 (ds : List D) : Prop := ∃ (s : Str), ds = [.sl 1 ((s).map fun b => D.int .u8 b.toNat)]
def V220 (ds : List D) : D := let s := unBytes (ds.getD 0 .any); (.int .u64 (sumL s) : D)
theorem V220_eq (s : Str) : V220 [.sl 1 ((s).map fun b => D.int .u8 b.toNat)] = .int .u64 (sumL s) := by
  have e0 : unBytes (.sl 1 ((s).map fun b => D.int .u8 b.toNat)) = s := unBytes_D s
  show (fun (s : Str) => (.int .u64 (sumL s) : D)) (unBytes (.sl 1 ((s).map fun b => D.int .u8 b.toNat))) = _
  rw [e0]
/-- linchpin/linchpinref9.Sum -/
def P221 (ds : List D) : Prop := ∃ (s : Str), ds = [.sl 1 ((s).map fun b => D.int .u8 b.toNat)]
def V221 (ds : List D) : D := let s := unBytes (ds.getD 0 .any); (.int .u64 (sumL s) : D)
theorem V221_eq (s : Str) : V221 [.sl 1 ((s).map fun b => D.int .u8 b.toNat)] = .int .u64 (sumL s) := by
  have e0 : unBytes (.sl 1 ((s).map fun b => D.int .u8 b.toNat)) = s := unBytes_D s
  show (fun (s : Str) => (.int .u64 (sumL s) : D)) (unBytes (.sl 1 ((s).map fun b => D.int .u8 b.toNat))) = _
  rw [e0]
/-- strings.Join -/
def P242 (ds : List D) : Prop := ∃ (l : List Str) (sep : Str), ds = [.sl 1 (l.map D.str), .str sep] ∧ (l.length ≤ 1048600) ∧ (sep.length ≤ 4) ∧ (∀ t ∈ l, t.length ≤ 2097200)
def V242 (ds : List D) : D := let l := (unL unS) (ds.getD 0 .any); let sep := unS (ds.getD 1 .any); (.str (joinS sep l) : D)
theorem V242_eq (l : List Str) (sep : Str) : V242 [.sl 1 (l.map D.str), .str sep] = .str (joinS sep l) := by
  have e0 : (unL unS) (.sl 1 (l.map D.str)) = l := unL_map (fun x => rfl) 1 l
  have e1 : unS (.str sep) = sep := rfl
  show (fun (l : List Str) (sep : Str) => (.str (joinS sep l) : D)) ((unL unS) (.sl 1 (l.map D.str))) (unS (.str sep)) = _
  rw [e0, e1]
/-- strings.CutPrefix -/
def P254 (ds : List D) : Prop := ∃ (s : Str) (p : Str), ds = [.str s, .str p] ∧ (s.length ≤ 1048576) ∧ (p.length ≤ 1048576)
def V254 (ds : List D) : D := let s := unS (ds.getD 0 .any); let p := unS (ds.getD 1 .any); (.tup [.str (cutPre s p).1, .bool (cutPre s p).2] : D)
theorem V254_eq (s : Str) (p : Str) : V254 [.str s, .str p] = .tup [.str (cutPre s p).1, .bool (cutPre s p).2] := by
  have e0 : unS (.str s) = s := rfl
  have e1 : unS (.str p) = p := rfl
  show (fun (s : Str) (p : Str) => (.tup [.str (cutPre s p).1, .bool (cutPre s p).2] : D)) (unS (.str s)) (unS (.str p)) = _
  rw [e0, e1]
/-- linchpin/lock.Find -/
def P294 (ds : List D) : Prop := ∃ (l : Lck) (nm : Str), ds = [Lck.D l, .str nm]
def V294 (ds : List D) : D := let l := unLck (ds.getD 0 .any); let nm := unS (ds.getD 1 .any); (.int .i64 (findI l.lines nm 0) : D)
theorem V294_eq (l : Lck) (nm : Str) : V294 [Lck.D l, .str nm] = .int .i64 (findI l.lines nm 0) := by
  have e0 : unLck (Lck.D l) = l := unLck_D l
  have e1 : unS (.str nm) = nm := rfl
  show (fun (l : Lck) (nm : Str) => (.int .i64 (findI l.lines nm 0) : D)) (unLck (Lck.D l)) (unS (.str nm)) = _
  rw [e0, e1]
/-- linchpin/lock.Parse -/
def P309 (ds : List D) : Prop := ∃ (s : Str), ds = [.str s] ∧ (s.length ≤ 1048576)
def V309 (ds : List D) : D := let s := unS (ds.getD 0 .any); (.tup [Lck.D (parseX s).1, .int .i64 (parseX s).2.1, .int .i64 (parseX s).2.2] : D)
theorem V309_eq (s : Str) : V309 [.str s] = .tup [Lck.D (parseX s).1, .int .i64 (parseX s).2.1, .int .i64 (parseX s).2.2] := by
  have e0 : unS (.str s) = s := rfl
  show (fun (s : Str) => (.tup [Lck.D (parseX s).1, .int .i64 (parseX s).2.1, .int .i64 (parseX s).2.2] : D)) (unS (.str s)) = _
  rw [e0]
/-- linchpin/linchpinref33.SameLines -/
def P310 (ds : List D) : Prop := ∃ (a : List Lkd) (b : List Lkd), ds = [.sl 9 (a.map Lkd.D), .sl 9 (b.map Lkd.D)]
def V310 (ds : List D) : D := let a := (unL unLkd) (ds.getD 0 .any); let b := (unL unLkd) (ds.getD 1 .any); (.bool (decide (a = b)) : D)
theorem V310_eq (a : List Lkd) (b : List Lkd) : V310 [.sl 9 (a.map Lkd.D), .sl 9 (b.map Lkd.D)] = .bool (decide (a = b)) := by
  have e0 : (unL unLkd) (.sl 9 (a.map Lkd.D)) = a := unL_map (fun x => unLkd_D x) 9 a
  have e1 : (unL unLkd) (.sl 9 (b.map Lkd.D)) = b := unL_map (fun x => unLkd_D x) 9 b
  show (fun (a : List Lkd) (b : List Lkd) => (.bool (decide (a = b)) : D)) ((unL unLkd) (.sl 9 (a.map Lkd.D))) ((unL unLkd) (.sl 9 (b.map Lkd.D))) = _
  rw [e0, e1]
/-- linchpin/linchpinref33.SameLine -/
def P311 (ds : List D) : Prop := ∃ (a : Lkd) (b : Lkd), ds = [Lkd.D a, Lkd.D b]
def V311 (ds : List D) : D := let a := unLkd (ds.getD 0 .any); let b := unLkd (ds.getD 1 .any); (.bool (decide (a = b)) : D)
theorem V311_eq (a : Lkd) (b : Lkd) : V311 [Lkd.D a, Lkd.D b] = .bool (decide (a = b)) := by
  have e0 : unLkd (Lkd.D a) = a := unLkd_D a
  have e1 : unLkd (Lkd.D b) = b := unLkd_D b
  show (fun (a : Lkd) (b : Lkd) => (.bool (decide (a = b)) : D)) (unLkd (Lkd.D a)) (unLkd (Lkd.D b)) = _
  rw [e0, e1]
/-- linchpin/lock.Print -/
def P312 (ds : List D) : Prop := ∃ (l : Lck), ds = [Lck.D l] ∧ (l.sm)
def V312 (ds : List D) : D := let l := unLck (ds.getD 0 .any); (.tup [.str (prS l), .int .i64 (prE l)] : D)
theorem V312_eq (l : Lck) : V312 [Lck.D l] = .tup [.str (prS l), .int .i64 (prE l)] := by
  have e0 : unLck (Lck.D l) = l := unLck_D l
  show (fun (l : Lck) => (.tup [.str (prS l), .int .i64 (prE l)] : D)) (unLck (Lck.D l)) = _
  rw [e0]
/-- linchpin/linchpinref9.Text -/
def P313 (ds : List D) : Prop := ∃ (n : Int), ds = [.int .u64 n]
def V313 (ds : List D) : D := let n := unI (ds.getD 0 .any); (.str (textL n) : D)
theorem V313_eq (n : Int) : V313 [.int .u64 n] = .str (textL n) := by
  have e0 : unI (.int .u64 n) = n := rfl
  show (fun (n : Int) => (.str (textL n) : D)) (unI (.int .u64 n)) = _
  rw [e0]
/-- linchpin/lock.Same -/
def P314 (ds : List D) : Prop := ∃ (a : Lck) (b : Lck), ds = [Lck.D a, Lck.D b]
def V314 (ds : List D) : D := let a := unLck (ds.getD 0 .any); let b := unLck (ds.getD 1 .any); (.bool (decide (a = b)) : D)
theorem V314_eq (a : Lck) (b : Lck) : V314 [Lck.D a, Lck.D b] = .bool (decide (a = b)) := by
  have e0 : unLck (Lck.D a) = a := unLck_D a
  have e1 : unLck (Lck.D b) = b := unLck_D b
  show (fun (a : Lck) (b : Lck) => (.bool (decide (a = b)) : D)) (unLck (Lck.D a)) (unLck (Lck.D b)) = _
  rw [e0, e1]
/-- linchpin/lock.May -/
def P315 (ds : List D) : Prop := ∃ (l : Lck), ds = [Lck.D l] ∧ (l.sm)
def V315 (ds : List D) : D := let l := unLck (ds.getD 0 .any); (.bool (lckB l) : D)
theorem V315_eq (l : Lck) : V315 [Lck.D l] = .bool (lckB l) := by
  have e0 : unLck (Lck.D l) = l := unLck_D l
  show (fun (l : Lck) => (.bool (lckB l) : D)) (unLck (Lck.D l)) = _
  rw [e0]
/-- linchpin/linchpinref2.Print -/
def P316 (ds : List D) : Prop := ∃ (v : Ver), ds = [Ver.D v] ∧ (v.sm)
def V316 (ds : List D) : D := let v := unVer (ds.getD 0 .any); (.str (verP v) : D)
theorem V316_eq (v : Ver) : V316 [Ver.D v] = .str (verP v) := by
  have e0 : unVer (Ver.D v) = v := rfl
  show (fun (v : Ver) => (.str (verP v) : D)) (unVer (Ver.D v)) = _
  rw [e0]
/-- strconv.Itoa -/
def P336 (ds : List D) : Prop := ∃ (n : Int), ds = [.int .i64 n] ∧ (0 ≤ n ∧ n ≤ 9999)
def V336 (ds : List D) : D := let n := unI (ds.getD 0 .any); (.str (decN n.toNat) : D)
theorem V336_eq (n : Int) : V336 [.int .i64 n] = .str (decN n.toNat) := by
  have e0 : unI (.int .i64 n) = n := rfl
  show (fun (n : Int) => (.str (decN n.toNat) : D)) (unI (.int .i64 n)) = _
  rw [e0]
/-- linchpin/ident.Word -/
def P349 (ds : List D) : Prop := ∃ (s : Str), ds = [.str s]
def V349 (ds : List D) : D := let s := unS (ds.getD 0 .any); (.bool (wordB s) : D)
theorem V349_eq (s : Str) : V349 [.str s] = .bool (wordB s) := by
  have e0 : unS (.str s) = s := rfl
  show (fun (s : Str) => (.bool (wordB s) : D)) (unS (.str s)) = _
  rw [e0]
/-- linchpin/linchpinref1.Word -/
def P357 (ds : List D) : Prop := ∃ (s : Str), ds = [.str s]
def V357 (ds : List D) : D := let s := unS (ds.getD 0 .any); (.bool (wordB s) : D)
theorem V357_eq (s : Str) : V357 [.str s] = .bool (wordB s) := by
  have e0 : unS (.str s) = s := rfl
  show (fun (s : Str) => (.bool (wordB s) : D)) (unS (.str s)) = _
  rw [e0]
/-- linchpin/linchpinref33.lineMay -/
def P418 (ds : List D) : Prop := ∃ (x : Lkd), ds = [Lkd.D x] ∧ (x.sm)
def V418 (ds : List D) : D := let x := unLkd (ds.getD 0 .any); (.bool (lkdB x) : D)
theorem V418_eq (x : Lkd) : V418 [Lkd.D x] = .bool (lkdB x) := by
  have e0 : unLkd (Lkd.D x) = x := unLkd_D x
  show (fun (x : Lkd) => (.bool (lkdB x) : D)) (unLkd (Lkd.D x)) = _
  rw [e0]
/-- linchpin/version.fits -/
def P440 (ds : List D) : Prop := ∃ (n : Int), ds = [.int .i64 n]
def V440 (ds : List D) : D := let n := unI (ds.getD 0 .any); (.bool (fitB n) : D)
theorem V440_eq (n : Int) : V440 [.int .i64 n] = .bool (fitB n) := by
  have e0 : unI (.int .i64 n) = n := rfl
  show (fun (n : Int) => (.bool (fitB n) : D)) (unI (.int .i64 n)) = _
  rw [e0]
/-- linchpin/version.pre -/
def P441 (ds : List D) : Prop := ∃ (s : Str), ds = [.str s] ∧ (s.length ≤ 1048576)
def V441 (ds : List D) : D := let s := unS (ds.getD 0 .any); (.bool (tagsP s true) : D)
theorem V441_eq (s : Str) : V441 [.str s] = .bool (tagsP s true) := by
  have e0 : unS (.str s) = s := rfl
  show (fun (s : Str) => (.bool (tagsP s true) : D)) (unS (.str s)) = _
  rw [e0]
/-- linchpin/version.tags -/
def P442 (ds : List D) : Prop := ∃ (s : Str), ds = [.str s] ∧ (s.length ≤ 1048576)
def V442 (ds : List D) : D := let s := unS (ds.getD 0 .any); (.bool (tagsP s false) : D)
theorem V442_eq (s : Str) : V442 [.str s] = .bool (tagsP s false) := by
  have e0 : unS (.str s) = s := rfl
  show (fun (s : Str) => (.bool (tagsP s false) : D)) (unS (.str s)) = _
  rw [e0]
/-- linchpin/version.Print -/
def P451 (ds : List D) : Prop := ∃ (v : Ver), ds = [Ver.D v] ∧ (v.sm)
def V451 (ds : List D) : D := let v := unVer (ds.getD 0 .any); (.str (verP v) : D)
theorem V451_eq (v : Ver) : V451 [Ver.D v] = .str (verP v) := by
  have e0 : unVer (Ver.D v) = v := rfl
  show (fun (v : Ver) => (.str (verP v) : D)) (unVer (Ver.D v)) = _
  rw [e0]
/-- linchpin/linchpinref1.low -/
def P453 (ds : List D) : Prop := ∃ (c : Int), ds = [.int .u8 c]
def V453 (ds : List D) : D := let c := unI (ds.getD 0 .any); (.bool (lowB c) : D)
theorem V453_eq (c : Int) : V453 [.int .u8 c] = .bool (lowB c) := by
  have e0 : unI (.int .u8 c) = c := rfl
  show (fun (c : Int) => (.bool (lowB c) : D)) (unI (.int .u8 c)) = _
  rw [e0]
/-- linchpin/linchpinref1.digit -/
def P454 (ds : List D) : Prop := ∃ (c : Int), ds = [.int .u8 c]
def V454 (ds : List D) : D := let c := unI (ds.getD 0 .any); (.bool (digitB c) : D)
theorem V454_eq (c : Int) : V454 [.int .u8 c] = .bool (digitB c) := by
  have e0 : unI (.int .u8 c) = c := rfl
  show (fun (c : Int) => (.bool (digitB c) : D)) (unI (.int .u8 c)) = _
  rw [e0]
/-- linchpin/linchpinref2.num -/
def P455 (ds : List D) : Prop := ∃ (n : Int), ds = [.int .i64 n]
def V455 (ds : List D) : D := let n := unI (ds.getD 0 .any); (.bool (fitB n) : D)
theorem V455_eq (n : Int) : V455 [.int .i64 n] = .bool (fitB n) := by
  have e0 : unI (.int .i64 n) = n := rfl
  show (fun (n : Int) => (.bool (fitB n) : D)) (unI (.int .i64 n)) = _
  rw [e0]
/-- linchpin/linchpinref2.tags -/
def P456 (ds : List D) : Prop := ∃ (s : Str) (p : Bool), ds = [.str s, .bool p] ∧ (s.length ≤ 1048576)
def V456 (ds : List D) : D := let s := unS (ds.getD 0 .any); let p := unB (ds.getD 1 .any); (.bool (tagsB s p) : D)
theorem V456_eq (s : Str) (p : Bool) : V456 [.str s, .bool p] = .bool (tagsB s p) := by
  have e0 : unS (.str s) = s := rfl
  have e1 : unB (.bool p) = p := rfl
  show (fun (s : Str) (p : Bool) => (.bool (tagsB s p) : D)) (unS (.str s)) (unB (.bool p)) = _
  rw [e0, e1]
/-- math/bits.RotateLeft64 -/
def P463 (ds : List D) : Prop := ∃ (h : Int) (k : Nat), ds = [.int .u64 h, .int .i64 (k : Nat)] ∧ (k = 13)
def V463 (ds : List D) : D := let h := unI (ds.getD 0 .any); let k := (unI (ds.getD 1 .any)).toNat; (.int .u64 (rot h k) : D)
theorem V463_eq (h : Int) (k : Nat) : V463 [.int .u64 h, .int .i64 (k : Nat)] = .int .u64 (rot h k) := by
  have e0 : unI (.int .u64 h) = h := rfl
  have e1 : (unI (.int .i64 (k : Nat))).toNat = k := Int.toNat_natCast k
  show (fun (h : Int) (k : Nat) => (.int .u64 (rot h k) : D)) (unI (.int .u64 h)) ((unI (.int .i64 (k : Nat))).toNat) = _
  rw [e0, e1]
/-- linchpin/linchpinref9.turn -/
def P464 (ds : List D) : Prop := ∃ (h : Int) (n : Nat), ds = [.int .u64 h, .int .u64 (n : Nat)] ∧ (n ≤ 63)
def V464 (ds : List D) : D := let h := unI (ds.getD 0 .any); let n := (unI (ds.getD 1 .any)).toNat; (.int .u64 (rot h n) : D)
theorem V464_eq (h : Int) (n : Nat) : V464 [.int .u64 h, .int .u64 (n : Nat)] = .int .u64 (rot h n) := by
  have e0 : unI (.int .u64 h) = h := rfl
  have e1 : (unI (.int .u64 (n : Nat))).toNat = n := Int.toNat_natCast n
  show (fun (h : Int) (n : Nat) => (.int .u64 (rot h n) : D)) (unI (.int .u64 h)) ((unI (.int .u64 (n : Nat))).toNat) = _
  rw [e0, e1]
/-- linchpin/version.Parse -/
def P466 (ds : List D) : Prop := ∃ (s : Str), ds = [.str s] ∧ (s.length ≤ 1048576)
def V466 (ds : List D) : D := let s := unS (ds.getD 0 .any); (.tup [Ver.D ((verQ s).getD verZ), .int .i64 (verE s)] : D)
theorem V466_eq (s : Str) : V466 [.str s] = .tup [Ver.D ((verQ s).getD verZ), .int .i64 (verE s)] := by
  have e0 : unS (.str s) = s := rfl
  show (fun (s : Str) => (.tup [Ver.D ((verQ s).getD verZ), .int .i64 (verE s)] : D)) (unS (.str s)) = _
  rw [e0]
/-- linchpin/linchpinref1.Split -/
def P470 (ds : List D) : Prop := ∃ (s : Str) (b : Int), ds = [.str s, .int .u8 b] ∧ (s.length ≤ 1048576)
def V470 (ds : List D) : D := let s := unS (ds.getD 0 .any); let b := unI (ds.getD 1 .any); (.sl 1 ((splitL s b).map D.str) : D)
theorem V470_eq (s : Str) (b : Int) : V470 [.str s, .int .u8 b] = .sl 1 ((splitL s b).map D.str) := by
  have e0 : unS (.str s) = s := rfl
  have e1 : unI (.int .u8 b) = b := rfl
  show (fun (s : Str) (b : Int) => (.sl 1 ((splitL s b).map D.str) : D)) (unS (.str s)) (unI (.int .u8 b)) = _
  rw [e0, e1]
/-- slices.Equal[[]string,string] -/
def P486 (ds : List D) : Prop := ∃ (a : List Str) (b : List Str), ds = [.sl 1 (a.map D.str), .sl 1 (b.map D.str)]
def V486 (ds : List D) : D := let a := (unL unS) (ds.getD 0 .any); let b := (unL unS) (ds.getD 1 .any); (.bool (decide (a = b)) : D)
theorem V486_eq (a : List Str) (b : List Str) : V486 [.sl 1 (a.map D.str), .sl 1 (b.map D.str)] = .bool (decide (a = b)) := by
  have e0 : (unL unS) (.sl 1 (a.map D.str)) = a := unL_map (fun x => rfl) 1 a
  have e1 : (unL unS) (.sl 1 (b.map D.str)) = b := unL_map (fun x => rfl) 1 b
  show (fun (a : List Str) (b : List Str) => (.bool (decide (a = b)) : D)) ((unL unS) (.sl 1 (a.map D.str))) ((unL unS) (.sl 1 (b.map D.str))) = _
  rw [e0, e1]
/-- strings.Cut -/
def P487 (ds : List D) : Prop := ∃ (s : Str) (b : UInt8), ds = [.str s, .str [b]] ∧ (s.length ≤ 1048576)
def V487 (ds : List D) : D := let s := unS (ds.getD 0 .any); let b := unSep (ds.getD 1 .any); (.tup [.str (cutL s b).1, .str (cutL s b).2.1, .bool (cutL s b).2.2] : D)
theorem V487_eq (s : Str) (b : UInt8) : V487 [.str s, .str [b]] = .tup [.str (cutL s b).1, .str (cutL s b).2.1, .bool (cutL s b).2.2] := by
  have e0 : unS (.str s) = s := rfl
  have e1 : unSep (.str [b]) = b := rfl
  show (fun (s : Str) (b : UInt8) => (.tup [.str (cutL s b).1, .str (cutL s b).2.1, .bool (cutL s b).2.2] : D)) (unS (.str s)) (unSep (.str [b])) = _
  rw [e0, e1]
/-- strings.Contains -/
def P491 (ds : List D) : Prop := ∃ (s : Str) (b : UInt8), ds = [.str s, .str [b]] ∧ (s.length ≤ 1048576)
def V491 (ds : List D) : D := let s := unS (ds.getD 0 .any); let b := unSep (ds.getD 1 .any); (.bool (s.contains b) : D)
theorem V491_eq (s : Str) (b : UInt8) : V491 [.str s, .str [b]] = .bool (s.contains b) := by
  have e0 : unS (.str s) = s := rfl
  have e1 : unSep (.str [b]) = b := rfl
  show (fun (s : Str) (b : UInt8) => (.bool (s.contains b) : D)) (unS (.str s)) (unSep (.str [b])) = _
  rw [e0, e1]
/-- linchpin/digest.Text -/
def P497 (ds : List D) : Prop := ∃ (n : Int), ds = [.int .u64 n]
def V497 (ds : List D) : D := let n := unI (ds.getD 0 .any); (.str (textL n) : D)
theorem V497_eq (n : Int) : V497 [.int .u64 n] = .str (textL n) := by
  have e0 : unI (.int .u64 n) = n := rfl
  show (fun (n : Int) => (.str (textL n) : D)) (unI (.int .u64 n)) = _
  rw [e0]
/-- linchpin/digest.Read -/
def P499 (ds : List D) : Prop := ∃ (s : Str), ds = [.str s]
def V499 (ds : List D) : D := let s := unS (ds.getD 0 .any); (.tup [.int .u64 (readO s), .bool (readB s)] : D)
theorem V499_eq (s : Str) : V499 [.str s] = .tup [.int .u64 (readO s), .bool (readB s)] := by
  have e0 : unS (.str s) = s := rfl
  show (fun (s : Str) => (.tup [.int .u64 (readO s), .bool (readB s)] : D)) (unS (.str s)) = _
  rw [e0]
/-- slices.IndexFunc[[]linchpin/api.Locked,linchpin/api.Locked] -/
def P528 (ds : List D) : Prop := ∃ (l : List Lkd) (nm : Str), ds = [.sl 9 (l.map Lkd.D), .fn 529 [.ref 1 [.str nm] 0 0]]
def V528 (ds : List D) : D := let l := (unL unLkd) (ds.getD 0 .any); let nm := unFn (ds.getD 1 .any); (.int .i64 (findI l nm 0) : D)
theorem V528_eq (l : List Lkd) (nm : Str) : V528 [.sl 9 (l.map Lkd.D), .fn 529 [.ref 1 [.str nm] 0 0]] = .int .i64 (findI l nm 0) := by
  have e0 : (unL unLkd) (.sl 9 (l.map Lkd.D)) = l := unL_map (fun x => unLkd_D x) 9 l
  have e1 : unFn (.fn 529 [.ref 1 [.str nm] 0 0]) = nm := rfl
  show (fun (l : List Lkd) (nm : Str) => (.int .i64 (findI l nm 0) : D)) ((unL unLkd) (.sl 9 (l.map Lkd.D))) (unFn (.fn 529 [.ref 1 [.str nm] 0 0])) = _
  rw [e0, e1]
/-- linchpin/lock.Find$1 -/
def P529 (ds : List D) : Prop := ∃ (x : Lkd) (nm : Str), ds = [Lkd.D x, .ref 1 [.str nm] 0 0]
def V529 (ds : List D) : D := let x := unLkd (ds.getD 0 .any); let nm := unRf (ds.getD 1 .any); (.bool (decide (x.name = nm)) : D)
theorem V529_eq (x : Lkd) (nm : Str) : V529 [Lkd.D x, .ref 1 [.str nm] 0 0] = .bool (decide (x.name = nm)) := by
  have e0 : unLkd (Lkd.D x) = x := unLkd_D x
  have e1 : unRf (.ref 1 [.str nm] 0 0) = nm := rfl
  show (fun (x : Lkd) (nm : Str) => (.bool (decide (x.name = nm)) : D)) (unLkd (Lkd.D x)) (unRf (.ref 1 [.str nm] 0 0)) = _
  rw [e0, e1]
/-- linchpin/ident.Split -/
def P533 (ds : List D) : Prop := ∃ (s : Str) (b : Int), ds = [.str s, .int .u8 b] ∧ (s.length ≤ 1048576)
def V533 (ds : List D) : D := let s := unS (ds.getD 0 .any); let b := unI (ds.getD 1 .any); (.sl 1 ((splitL s b).map D.str) : D)
theorem V533_eq (s : Str) (b : Int) : V533 [.str s, .int .u8 b] = .sl 1 ((splitL s b).map D.str) := by
  have e0 : unS (.str s) = s := rfl
  have e1 : unI (.int .u8 b) = b := rfl
  show (fun (s : Str) (b : Int) => (.sl 1 ((splitL s b).map D.str) : D)) (unS (.str s)) (unI (.int .u8 b)) = _
  rw [e0, e1]
/-- (*linchpin/lock.reader).next -/
def P545 (d : D) (ds : List D) : Prop := ∃ (r : Rdr), d = Rdr.D r ∧ ds = [] ∧ (r.at' ≤ r.s.length) ∧ (r.s.length ≤ 1048576) ∧ (r.n ≤ 2097152)
def V545 (d : D) (ds : List D) : D := let r := unRdr d; (.tup [.str r.ln.1, .bool r.ln.2.2] : D)
theorem V545_eq (r : Rdr)  : V545 (Rdr.D r) [] = .tup [.str r.ln.1, .bool r.ln.2.2] := by
  have e : unRdr (Rdr.D r) = r := unRdr_D r
  show (fun (r : Rdr) => (.tup [.str r.ln.1, .bool r.ln.2.2] : D)) (unRdr (Rdr.D r)) = _
  rw [e]
def S545 (d : D) (ds : List D) : D := let r := unRdr d; (Rdr.D r.nxt : D)
theorem S545_eq (r : Rdr)  : S545 (Rdr.D r) [] = Rdr.D r.nxt := by
  have e : unRdr (Rdr.D r) = r := unRdr_D r
  show (fun (r : Rdr) => (Rdr.D r.nxt : D)) (unRdr (Rdr.D r)) = _
  rw [e]
/-- linchpin/lock.platform -/
def P546 (ds : List D) : Prop := ∃ (s : Str), ds = [.str s] ∧ (s.length ≤ 8192)
def V546 (ds : List D) : D := let s := unS (ds.getD 0 .any); (.tup [Env.D (envR s), .bool (envOK s)] : D)
theorem V546_eq (s : Str) : V546 [.str s] = .tup [Env.D (envR s), .bool (envOK s)] := by
  have e0 : unS (.str s) = s := rfl
  show (fun (s : Str) => (.tup [Env.D (envR s), .bool (envOK s)] : D)) (unS (.str s)) = _
  rw [e0]
/-- linchpin/lock.locked -/
def P547 (ds : List D) : Prop := ∃ (t : Str), ds = [.str t] ∧ (t.length ≤ 8192)
def V547 (ds : List D) : D := let t := unS (ds.getD 0 .any); (.tup [Lkd.D (lkdR t), .bool (lkdOK t)] : D)
theorem V547_eq (t : Str) : V547 [.str t] = .tup [Lkd.D (lkdR t), .bool (lkdOK t)] := by
  have e0 : unS (.str t) = t := rfl
  show (fun (t : Str) => (.tup [Lkd.D (lkdR t), .bool (lkdOK t)] : D)) (unS (.str t)) = _
  rw [e0]
/-- linchpin/lock.dash -/
def P548 (ds : List D) : Prop := ∃ (s : Str), ds = [.str s]
def V548 (ds : List D) : D := let s := unS (ds.getD 0 .any); (.str (dashS s) : D)
theorem V548_eq (s : Str) : V548 [.str s] = .str (dashS s) := by
  have e0 : unS (.str s) = s := rfl
  show (fun (s : Str) => (.str (dashS s) : D)) (unS (.str s)) = _
  rw [e0]
/-- (linchpin/lock.line).text -/
def P549 (ds : List D) : Prop := ∃ (x : Lkd), ds = [Lkd.D x] ∧ (x.sm)
def V549 (ds : List D) : D := let x := unLkd (ds.getD 0 .any); (.str (lkdS x) : D)
theorem V549_eq (x : Lkd) : V549 [Lkd.D x] = .str (lkdS x) := by
  have e0 : unLkd (Lkd.D x) = x := unLkd_D x
  show (fun (x : Lkd) => (.str (lkdS x) : D)) (unLkd (Lkd.D x)) = _
  rw [e0]
/-- slices.EqualFunc[[]linchpin/api.Locked,[]linchpin/api.Locked,linchpin/api.Locked,linchpin/api.Locked] -/
def P550 (ds : List D) : Prop := ∃ (a : List Lkd) (b : List Lkd), ds = [.sl 9 (a.map Lkd.D), .sl 9 (b.map Lkd.D), .fn 551 []]
def V550 (ds : List D) : D := let a := (unL unLkd) (ds.getD 0 .any); let b := (unL unLkd) (ds.getD 1 .any); (.bool (decide (a = b)) : D)
theorem V550_eq (a : List Lkd) (b : List Lkd) : V550 [.sl 9 (a.map Lkd.D), .sl 9 (b.map Lkd.D), .fn 551 []] = .bool (decide (a = b)) := by
  have e0 : (unL unLkd) (.sl 9 (a.map Lkd.D)) = a := unL_map (fun x => unLkd_D x) 9 a
  have e1 : (unL unLkd) (.sl 9 (b.map Lkd.D)) = b := unL_map (fun x => unLkd_D x) 9 b
  show (fun (a : List Lkd) (b : List Lkd) => (.bool (decide (a = b)) : D)) ((unL unLkd) (.sl 9 (a.map Lkd.D))) ((unL unLkd) (.sl 9 (b.map Lkd.D))) = _
  rw [e0, e1]
/-- linchpin/lock.Same$1 -/
def P551 (ds : List D) : Prop := ∃ (a : Lkd) (b : Lkd), ds = [Lkd.D a, Lkd.D b]
def V551 (ds : List D) : D := let a := unLkd (ds.getD 0 .any); let b := unLkd (ds.getD 1 .any); (.bool (decide (a = b)) : D)
theorem V551_eq (a : Lkd) (b : Lkd) : V551 [Lkd.D a, Lkd.D b] = .bool (decide (a = b)) := by
  have e0 : unLkd (Lkd.D a) = a := unLkd_D a
  have e1 : unLkd (Lkd.D b) = b := unLkd_D b
  show (fun (a : Lkd) (b : Lkd) => (.bool (decide (a = b)) : D)) (unLkd (Lkd.D a)) (unLkd (Lkd.D b)) = _
  rw [e0, e1]
/-- (linchpin/lock.line).same -/
def P552 (ds : List D) : Prop := ∃ (a : Lkd) (b : Lkd), ds = [Lkd.D a, Lkd.D b]
def V552 (ds : List D) : D := let a := unLkd (ds.getD 0 .any); let b := unLkd (ds.getD 1 .any); (.bool (decide (a = b)) : D)
theorem V552_eq (a : Lkd) (b : Lkd) : V552 [Lkd.D a, Lkd.D b] = .bool (decide (a = b)) := by
  have e0 : unLkd (Lkd.D a) = a := unLkd_D a
  have e1 : unLkd (Lkd.D b) = b := unLkd_D b
  show (fun (a : Lkd) (b : Lkd) => (.bool (decide (a = b)) : D)) (unLkd (Lkd.D a)) (unLkd (Lkd.D b)) = _
  rw [e0, e1]
/-- (linchpin/lock.line).may -/
def P553 (ds : List D) : Prop := ∃ (x : Lkd), ds = [Lkd.D x] ∧ (x.sm)
def V553 (ds : List D) : D := let x := unLkd (ds.getD 0 .any); (.bool (lkdB x) : D)
theorem V553_eq (x : Lkd) : V553 [Lkd.D x] = .bool (lkdB x) := by
  have e0 : unLkd (Lkd.D x) = x := unLkd_D x
  show (fun (x : Lkd) => (.bool (lkdB x) : D)) (unLkd (Lkd.D x)) = _
  rw [e0]
/-- linchpin/linchpinref2.Numbers -/
def P554 (ds : List D) : Prop := ∃ (v : Ver), ds = [Ver.D v] ∧ (fitB v.major = true ∧ fitB v.minor = true ∧ fitB v.patch = true)
def V554 (ds : List D) : D := let v := unVer (ds.getD 0 .any); (.str (decN v.major.toNat ++ [46] ++ decN v.minor.toNat ++ [46] ++ decN v.patch.toNat) : D)
theorem V554_eq (v : Ver) : V554 [Ver.D v] = .str (decN v.major.toNat ++ [46] ++ decN v.minor.toNat ++ [46] ++ decN v.patch.toNat) := by
  have e0 : unVer (Ver.D v) = v := rfl
  show (fun (v : Ver) => (.str (decN v.major.toNat ++ [46] ++ decN v.minor.toNat ++ [46] ++ decN v.patch.toNat) : D)) (unVer (Ver.D v)) = _
  rw [e0]
/-- linchpin/linchpinref33.Print -/
def P571 (ds : List D) : Prop := ∃ (l : Lck), ds = [Lck.D l] ∧ (l.sm)
def V571 (ds : List D) : D := let l := unLck (ds.getD 0 .any); (.tup [.str (prS l), .int .i64 (prE l)] : D)
theorem V571_eq (l : Lck) : V571 [Lck.D l] = .tup [.str (prS l), .int .i64 (prE l)] := by
  have e0 : unLck (Lck.D l) = l := unLck_D l
  show (fun (l : Lck) => (.tup [.str (prS l), .int .i64 (prE l)] : D)) (unLck (Lck.D l)) = _
  rw [e0]
/-- linchpin/linchpinref33.Keeps -/
def P594 (ds : List D) : Prop := ∃ (l : Lck), ds = [Lck.D l] ∧ (l.sm)
def V594 (ds : List D) : D := let l := unLck (ds.getD 0 .any); (.sl 6 ((keepsL l.lines).map Kp.D) : D)
theorem V594_eq (l : Lck) : V594 [Lck.D l] = .sl 6 ((keepsL l.lines).map Kp.D) := by
  have e0 : unLck (Lck.D l) = l := unLck_D l
  show (fun (l : Lck) => (.sl 6 ((keepsL l.lines).map Kp.D) : D)) (unLck (Lck.D l)) = _
  rw [e0]
/-- linchpin/ident.Number -/
def P658 (ds : List D) : Prop := ∃ (s : Str), ds = [.str s]
def V658 (ds : List D) : D := let s := unS (ds.getD 0 .any); (.tup [.int .i64 (numO s), .bool (numB s)] : D)
theorem V658_eq (s : Str) : V658 [.str s] = .tup [.int .i64 (numO s), .bool (numB s)] := by
  have e0 : unS (.str s) = s := rfl
  show (fun (s : Str) => (.tup [.int .i64 (numO s), .bool (numB s)] : D)) (unS (.str s)) = _
  rw [e0]
/-- linchpin/version.numeric -/
def P659 (ds : List D) : Prop := ∃ (t : Str), ds = [.str t]
def V659 (ds : List D) : D := let t := unS (ds.getD 0 .any); (.bool (numericB t) : D)
theorem V659_eq (t : Str) : V659 [.str t] = .bool (numericB t) := by
  have e0 : unS (.str t) = t := rfl
  show (fun (t : Str) => (.bool (numericB t) : D)) (unS (.str t)) = _
  rw [e0]
/-- linchpin/ident.Digits -/
def P665 (ds : List D) : Prop := ∃ (n : Int), ds = [.int .i64 n] ∧ (0 ≤ n ∧ n ≤ 9999)
def V665 (ds : List D) : D := let n := unI (ds.getD 0 .any); (.str (decN n.toNat) : D)
theorem V665_eq (n : Int) : V665 [.int .i64 n] = .str (decN n.toNat) := by
  have e0 : unI (.int .i64 n) = n := rfl
  show (fun (n : Int) => (.str (decN n.toNat) : D)) (unI (.int .i64 n)) = _
  rw [e0]
/-- linchpin/linchpinref2.tag -/
def P666 (ds : List D) : Prop := ∃ (t : Str), ds = [.str t]
def V666 (ds : List D) : D := let t := unS (ds.getD 0 .any); (.bool (tagB t) : D)
theorem V666_eq (t : Str) : V666 [.str t] = .bool (tagB t) := by
  have e0 : unS (.str t) = t := rfl
  show (fun (t : Str) => (.bool (tagB t) : D)) (unS (.str t)) = _
  rw [e0]
/-- linchpin/linchpinref1.Number -/
def P667 (ds : List D) : Prop := ∃ (s : Str), ds = [.str s]
def V667 (ds : List D) : D := let s := unS (ds.getD 0 .any); (.tup [.int .i64 (numO s), .bool (numB s)] : D)
theorem V667_eq (s : Str) : V667 [.str s] = .tup [.int .i64 (numO s), .bool (numB s)] := by
  have e0 : unS (.str s) = s := rfl
  show (fun (s : Str) => (.tup [.int .i64 (numO s), .bool (numB s)] : D)) (unS (.str s)) = _
  rw [e0]
/-- linchpin/linchpinref2.Numeric -/
def P668 (ds : List D) : Prop := ∃ (t : Str), ds = [.str t]
def V668 (ds : List D) : D := let t := unS (ds.getD 0 .any); (.bool (numericB t) : D)
theorem V668_eq (t : Str) : V668 [.str t] = .bool (numericB t) := by
  have e0 : unS (.str t) = t := rfl
  show (fun (t : Str) => (.bool (numericB t) : D)) (unS (.str t)) = _
  rw [e0]
/-- linchpin/version.behind -/
def P675 (ds : List D) : Prop := ∃ (s : Str) (b : Int), ds = [.str s, .int .u8 b]
def V675 (ds : List D) : D := let s := unS (ds.getD 0 .any); let b := unI (ds.getD 1 .any); (.tup [.str (behindL s b).1, .str (behindL s b).2] : D)
theorem V675_eq (s : Str) (b : Int) : V675 [.str s, .int .u8 b] = .tup [.str (behindL s b).1, .str (behindL s b).2] := by
  have e0 : unS (.str s) = s := rfl
  have e1 : unI (.int .u8 b) = b := rfl
  show (fun (s : Str) (b : Int) => (.tup [.str (behindL s b).1, .str (behindL s b).2] : D)) (unS (.str s)) (unI (.int .u8 b)) = _
  rw [e0, e1]
/-- linchpin/digest.digit -/
def P686 (ds : List D) : Prop := ∃ (k : Nat), ds = [.int .u8 (k : Nat)] ∧ (k < 16)
def V686 (ds : List D) : D := let k := (unI (ds.getD 0 .any)).toNat; (.int .u8 ((hexD k).toNat : Nat) : D)
theorem V686_eq (k : Nat) : V686 [.int .u8 (k : Nat)] = .int .u8 ((hexD k).toNat : Nat) := by
  have e0 : (unI (.int .u8 (k : Nat))).toNat = k := Int.toNat_natCast k
  show (fun (k : Nat) => (.int .u8 ((hexD k).toNat : Nat) : D)) ((unI (.int .u8 (k : Nat))).toNat) = _
  rw [e0]
/-- linchpin/lock.plain -/
def P733 (ds : List D) : Prop := ∃ (s : Str), ds = [.str s]
def V733 (ds : List D) : D := let s := unS (ds.getD 0 .any); (.str (undashS s) : D)
theorem V733_eq (s : Str) : V733 [.str s] = .str (undashS s) := by
  have e0 : unS (.str s) = s := rfl
  show (fun (s : Str) => (.str (undashS s) : D)) (unS (.str s)) = _
  rw [e0]
/-- linchpin/linchpinref1.Digits -/
def P734 (ds : List D) : Prop := ∃ (n : Int), ds = [.int .i64 n] ∧ (0 ≤ n ∧ n ≤ 9999)
def V734 (ds : List D) : D := let n := unI (ds.getD 0 .any); (.str (decN n.toNat) : D)
theorem V734_eq (n : Int) : V734 [.int .i64 n] = .str (decN n.toNat) := by
  have e0 : unI (.int .i64 n) = n := rfl
  show (fun (n : Int) => (.str (decN n.toNat) : D)) (unI (.int .i64 n)) = _
  rw [e0]
/-- linchpin/linchpinref33.text -/
def P743 (ds : List D) : Prop := ∃ (l : Lck), ds = [Lck.D l] ∧ (l.sm)
def V743 (ds : List D) : D := let l := unLck (ds.getD 0 .any); (.str (lckS l) : D)
theorem V743_eq (l : Lck) : V743 [Lck.D l] = .str (lckS l) := by
  have e0 : unLck (Lck.D l) = l := unLck_D l
  show (fun (l : Lck) => (.str (lckS l) : D)) (unLck (Lck.D l)) = _
  rw [e0]
/-- linchpin/linchpinref1.whole -/
def P882 (ds : List D) : Prop := ∃ (n : Nat), ds = [.int .u64 (n : Nat)] ∧ (n ≤ 9999)
def V882 (ds : List D) : D := let n := (unI (ds.getD 0 .any)).toNat; (.str (decN n) : D)
theorem V882_eq (n : Nat) : V882 [.int .u64 (n : Nat)] = .str (decN n) := by
  have e0 : (unI (.int .u64 (n : Nat))).toNat = n := Int.toNat_natCast n
  show (fun (n : Nat) => (.str (decN n) : D)) ((unI (.int .u64 (n : Nat))).toNat) = _
  rw [e0]
/-- linchpin/linchpinref33.dash -/
def P894 (ds : List D) : Prop := ∃ (s : Str), ds = [.str s]
def V894 (ds : List D) : D := let s := unS (ds.getD 0 .any); (.str (dashS s) : D)
theorem V894_eq (s : Str) : V894 [.str s] = .str (dashS s) := by
  have e0 : unS (.str s) = s := rfl
  show (fun (s : Str) => (.str (dashS s) : D)) (unS (.str s)) = _
  rw [e0]
/-- linchpin/linchpinref33.line -/
def P895 (ds : List D) : Prop := ∃ (x : Lkd), ds = [Lkd.D x] ∧ (x.sm)
def V895 (ds : List D) : D := let x := unLkd (ds.getD 0 .any); (.str (lkdS x) : D)
theorem V895_eq (x : Lkd) : V895 [Lkd.D x] = .str (lkdS x) := by
  have e0 : unLkd (Lkd.D x) = x := unLkd_D x
  show (fun (x : Lkd) => (.str (lkdS x) : D)) (unLkd (Lkd.D x)) = _
  rw [e0]
/-- linchpin/linchpinlaw33.few -/
def P1184 (ds : List D) : Prop := ∃ (l : Lck), ds = [Lck.D l]
def V1184 (ds : List D) : D := let l := unLck (ds.getD 0 .any); (.bool (fewB l) : D)
theorem V1184_eq (l : Lck) : V1184 [Lck.D l] = .bool (fewB l) := by
  have e0 : unLck (Lck.D l) = l := unLck_D l
  show (fun (l : Lck) => (.bool (fewB l) : D)) (unLck (Lck.D l)) = _
  rw [e0]
/-- linchpin/linchpinlaw33.keeps -/
def P1185 (ds : List D) : Prop := ∃ (a : List Kp) (b : List Kp), ds = [.sl 6 (a.map Kp.D), .sl 6 (b.map Kp.D)]
def V1185 (ds : List D) : D := let a := (unL unKp) (ds.getD 0 .any); let b := (unL unKp) (ds.getD 1 .any); (.bool (decide (a = b)) : D)
theorem V1185_eq (a : List Kp) (b : List Kp) : V1185 [.sl 6 (a.map Kp.D), .sl 6 (b.map Kp.D)] = .bool (decide (a = b)) := by
  have e0 : (unL unKp) (.sl 6 (a.map Kp.D)) = a := unL_map (fun x => rfl) 6 a
  have e1 : (unL unKp) (.sl 6 (b.map Kp.D)) = b := unL_map (fun x => rfl) 6 b
  show (fun (a : List Kp) (b : List Kp) => (.bool (decide (a = b)) : D)) ((unL unKp) (.sl 6 (a.map Kp.D))) ((unL unKp) (.sl 6 (b.map Kp.D))) = _
  rw [e0, e1]
/-- linchpin/linchpinlaw33.LockPrints -/
def P1186 (ds : List D) : Prop := ∃ (raw : Lck) (ks : List Int) (pa : Int) (pw : Int) (pb : Int), ds = [Lck.D raw, .sl 1 (ks.map (D.int .i64)), .int .i64 pa, .int .i64 pw, .int .i64 pb] ∧ (raw.sm)
def V1186 (ds : List D) : D := let raw := unLck (ds.getD 0 .any); let ks := (unL unI) (ds.getD 1 .any); let pa := unI (ds.getD 2 .any); let pw := unI (ds.getD 3 .any); let pb := unI (ds.getD 4 .any); (.bool true : D)
theorem V1186_eq (raw : Lck) (ks : List Int) (pa : Int) (pw : Int) (pb : Int) : V1186 [Lck.D raw, .sl 1 (ks.map (D.int .i64)), .int .i64 pa, .int .i64 pw, .int .i64 pb] = .bool true := by
  have e0 : unLck (Lck.D raw) = raw := unLck_D raw
  have e1 : (unL unI) (.sl 1 (ks.map (D.int .i64))) = ks := unL_map (fun x => rfl) 1 ks
  have e2 : unI (.int .i64 pa) = pa := rfl
  have e3 : unI (.int .i64 pw) = pw := rfl
  have e4 : unI (.int .i64 pb) = pb := rfl
  show (fun (raw : Lck) (ks : List Int) (pa : Int) (pw : Int) (pb : Int) => (.bool true : D)) (unLck (Lck.D raw)) ((unL unI) (.sl 1 (ks.map (D.int .i64)))) (unI (.int .i64 pa)) (unI (.int .i64 pw)) (unI (.int .i64 pb)) = _
  rw [e0, e1, e2, e3, e4]
/-- linchpin/linchpinlaw33.LockSums -/
def P1187 (ds : List D) : Prop := ∃ (ks : List Int) (ls : List Int), ds = [.sl 1 (ks.map (D.int .i64)), .sl 1 (ls.map (D.int .i64))]
def V1187 (ds : List D) : D := let ks := (unL unI) (ds.getD 0 .any); let ls := (unL unI) (ds.getD 1 .any); (.bool true : D)
theorem V1187_eq (ks : List Int) (ls : List Int) : V1187 [.sl 1 (ks.map (D.int .i64)), .sl 1 (ls.map (D.int .i64))] = .bool true := by
  have e0 : (unL unI) (.sl 1 (ks.map (D.int .i64))) = ks := unL_map (fun x => rfl) 1 ks
  have e1 : (unL unI) (.sl 1 (ls.map (D.int .i64))) = ls := unL_map (fun x => rfl) 1 ls
  show (fun (ks : List Int) (ls : List Int) => (.bool true : D)) ((unL unI) (.sl 1 (ks.map (D.int .i64)))) ((unL unI) (.sl 1 (ls.map (D.int .i64)))) = _
  rw [e0, e1]
/-- linchpin/linchpinlaw33.LockMay -/
def P1188 (ds : List D) : Prop := ∃ (raw : Lck) (ks : List Int) (pa : Int) (pw : Int) (pb : Int) (nm : Str), ds = [Lck.D raw, .sl 1 (ks.map (D.int .i64)), .int .i64 pa, .int .i64 pw, .int .i64 pb, .str nm] ∧ (raw.sm)
def V1188 (ds : List D) : D := let raw := unLck (ds.getD 0 .any); let ks := (unL unI) (ds.getD 1 .any); let pa := unI (ds.getD 2 .any); let pw := unI (ds.getD 3 .any); let pb := unI (ds.getD 4 .any); let nm := unS (ds.getD 5 .any); (.bool true : D)
theorem V1188_eq (raw : Lck) (ks : List Int) (pa : Int) (pw : Int) (pb : Int) (nm : Str) : V1188 [Lck.D raw, .sl 1 (ks.map (D.int .i64)), .int .i64 pa, .int .i64 pw, .int .i64 pb, .str nm] = .bool true := by
  have e0 : unLck (Lck.D raw) = raw := unLck_D raw
  have e1 : (unL unI) (.sl 1 (ks.map (D.int .i64))) = ks := unL_map (fun x => rfl) 1 ks
  have e2 : unI (.int .i64 pa) = pa := rfl
  have e3 : unI (.int .i64 pw) = pw := rfl
  have e4 : unI (.int .i64 pb) = pb := rfl
  have e5 : unS (.str nm) = nm := rfl
  show (fun (raw : Lck) (ks : List Int) (pa : Int) (pw : Int) (pb : Int) (nm : Str) => (.bool true : D)) (unLck (Lck.D raw)) ((unL unI) (.sl 1 (ks.map (D.int .i64)))) (unI (.int .i64 pa)) (unI (.int .i64 pw)) (unI (.int .i64 pb)) (unS (.str nm)) = _
  rw [e0, e1, e2, e3, e4, e5]
def tabY : List (Nat × Row) := [(25, ⟨1, P25, V25⟩), (29, ⟨2, P29, V29⟩), (93, ⟨3, P93, V93⟩), (101, ⟨1, P101, V101⟩), (109, ⟨2, fun _ => False, fun _ => .any⟩), (111, ⟨1, P111, V111⟩), (112, ⟨1, P112, V112⟩), (117, ⟨3, P117, V117⟩), (119, ⟨9, P119, V119⟩), (124, ⟨1, P124, V124⟩), (138, ⟨2, P138, V138⟩), (144, ⟨3, P144, V144⟩), (159, ⟨1, P159, V159⟩), (160, ⟨3, P160, V160⟩), (189, ⟨6, P189, V189⟩), (190, ⟨1, P190, V190⟩), (208, ⟨1, P208, V208⟩), (209, ⟨4, P209, V209⟩), (216, ⟨2, P216, V216⟩), (217, ⟨4, P217, V217⟩), (220, ⟨2, P220, V220⟩), (221, ⟨2, P221, V221⟩), (242, ⟨1, P242, V242⟩), (254, ⟨1, P254, V254⟩), (294, ⟨3, P294, V294⟩), (309, ⟨8, P309, V309⟩), (310, ⟨2, P310, V310⟩), (311, ⟨1, P311, V311⟩), (312, ⟨7, P312, V312⟩), (313, ⟨1, P313, V313⟩), (314, ⟨5, P314, V314⟩), (315, ⟨6, P315, V315⟩), (316, ⟨5, P316, V316⟩), (336, ⟨1, P336, V336⟩), (349, ⟨1, P349, V349⟩), (357, ⟨2, P357, V357⟩), (418, ⟨5, P418, V418⟩), (440, ⟨1, P440, V440⟩), (441, ⟨3, P441, V441⟩), (442, ⟨2, P442, V442⟩), (451, ⟨5, P451, V451⟩), (453, ⟨1, P453, V453⟩), (454, ⟨1, P454, V454⟩), (455, ⟨1, P455, V455⟩), (456, ⟨3, P456, V456⟩), (463, ⟨1, P463, V463⟩), (464, ⟨1, P464, V464⟩), (466, ⟨6, P466, V466⟩), (470, ⟨1, P470, V470⟩), (486, ⟨1, P486, V486⟩), (487, ⟨1, P487, V487⟩), (491, ⟨1, P491, V491⟩), (497, ⟨2, P497, V497⟩), (499, ⟨1, P499, V499⟩), (528, ⟨2, P528, V528⟩), (529, ⟨1, P529, V529⟩), (533, ⟨1, P533, V533⟩), (545, ⟨2, fun _ => False, fun _ => .any⟩), (546, ⟨3, P546, V546⟩), (547, ⟨7, P547, V547⟩), (548, ⟨1, P548, V548⟩), (549, ⟨6, P549, V549⟩), (550, ⟨4, P550, V550⟩), (551, ⟨3, P551, V551⟩), (552, ⟨2, P552, V552⟩), (553, ⟨5, P553, V553⟩), (554, ⟨3, P554, V554⟩), (571, ⟨8, P571, V571⟩), (594, ⟨1, P594, V594⟩), (658, ⟨1, P658, V658⟩), (659, ⟨1, P659, V659⟩), (665, ⟨2, P665, V665⟩), (666, ⟨1, P666, V666⟩), (667, ⟨2, P667, V667⟩), (668, ⟨1, P668, V668⟩), (675, ⟨1, P675, V675⟩), (686, ⟨1, P686, V686⟩), (733, ⟨1, P733, V733⟩), (734, ⟨2, P734, V734⟩), (743, ⟨7, P743, V743⟩), (882, ⟨1, P882, V882⟩), (894, ⟨1, P894, V894⟩), (895, ⟨6, P895, V895⟩), (1184, ⟨1, P1184, V1184⟩), (1185, ⟨1, P1185, V1185⟩), (1186, ⟨10, P1186, V1186⟩), (1187, ⟨10, P1187, V1187⟩), (1188, ⟨10, P1188, V1188⟩)]
def tabF : List (Nat × RowF) := [(109, ⟨P109, V109, S109⟩), (545, ⟨P545, V545, S545⟩)]
def ctxY : Ctx := ctxOf tabY tabF
def rankY : Rank := rankOf tabY
theorem G25 {k u : Nat} (hk : 1 < k) : C25 (ctxY.under rankY k u) := fun v n hp0 => ⟨⟨.inl hk, v, n, rfl, hp0⟩, V25_eq v n⟩
theorem G29 {k u : Nat} (hk : 2 < k) : C29 (ctxY.under rankY k u) := fun n  => ⟨⟨.inl hk, n, rfl⟩, V29_eq n⟩
theorem G93 {k u : Nat} (hk : 3 < k) : C93 (ctxY.under rankY k u) := fun l pa pw pb hp0 => ⟨⟨.inl hk, l, pa, pw, pb, rfl, hp0⟩, V93_eq l pa pw pb⟩
theorem G101 {k u : Nat} (hk : 1 < k) : C101 (ctxY.under rankY k u) := fun l hp0 => ⟨⟨.inl hk, l, rfl, hp0⟩, V101_eq l⟩
theorem G109 {k u : Nat} (hk : 2 < k) : C109 (ctxY.under rankY k u) := fun g n hp0 hp1 => ⟨⟨.inl hk, g, n, rfl, rfl, hp0, hp1⟩, V109_eq g n, S109_eq g n⟩
theorem G111 {k u : Nat} (hk : 1 < k) : C111 (ctxY.under rankY k u) := ⟨⟨.inl hk, rfl⟩, V111_eq ⟩
theorem G112 {k u : Nat} (hk : 1 < k) : C112 (ctxY.under rankY k u) := ⟨⟨.inl hk, rfl⟩, V112_eq ⟩
theorem G117 {k u : Nat} (hk : 3 < k) : C117 (ctxY.under rankY k u) := fun a b  => ⟨⟨.inl hk, a, b, rfl⟩, V117_eq a b⟩
theorem G119 {k u : Nat} (hk : 9 < k) : C119 (ctxY.under rankY k u) := ⟨⟨.inl hk, rfl⟩, V119_eq ⟩
theorem G124 {k u : Nat} (hk : 1 < k) : C124 (ctxY.under rankY k u) := fun s b hp0 => ⟨⟨.inl hk, s, b, rfl, hp0⟩, V124_eq s b⟩
theorem G138 {k u : Nat} (hk : 2 < k) : C138 (ctxY.under rankY k u) := fun e  => ⟨⟨.inl hk, e, rfl⟩, V138_eq e⟩
theorem G144 {k u : Nat} (hk : 3 < k) : C144 (ctxY.under rankY k u) := fun e  => ⟨⟨.inl hk, e, rfl⟩, V144_eq e⟩
theorem G159 {k u : Nat} (hk : 1 < k) : C159 (ctxY.under rankY k u) := fun l i  => ⟨⟨.inl hk, l, i, rfl⟩, V159_eq l i⟩
theorem G160 {k u : Nat} (hk : 3 < k) : C160 (ctxY.under rankY k u) := fun ks  => ⟨⟨.inl hk, ks, rfl⟩, V160_eq ks⟩
theorem G189 {k u : Nat} (hk : 6 < k) : C189 (ctxY.under rankY k u) := fun l hp0 => ⟨⟨.inl hk, l, rfl, hp0⟩, V189_eq l⟩
theorem G190 {k u : Nat} (hk : 1 < k) : C190 (ctxY.under rankY k u) := fun l nm  => ⟨⟨.inl hk, l, nm, rfl⟩, V190_eq l nm⟩
theorem G208 {k u : Nat} (hk : 1 < k) : C208 (ctxY.under rankY k u) := fun s  => ⟨⟨.inl hk, s, rfl⟩, V208_eq s⟩
theorem G209 {k u : Nat} (hk : 4 < k) : C209 (ctxY.under rankY k u) := fun v hp0 => ⟨⟨.inl hk, v, rfl, hp0⟩, V209_eq v⟩
theorem G216 {k u : Nat} (hk : 2 < k) : C216 (ctxY.under rankY k u) := fun s  => ⟨⟨.inl hk, s, rfl⟩, V216_eq s⟩
theorem G217 {k u : Nat} (hk : 4 < k) : C217 (ctxY.under rankY k u) := fun v hp0 => ⟨⟨.inl hk, v, rfl, hp0⟩, V217_eq v⟩
theorem G220 {k u : Nat} (hk : 2 < k) : C220 (ctxY.under rankY k u) := fun s  => ⟨⟨.inl hk, s, rfl⟩, V220_eq s⟩
theorem G221 {k u : Nat} (hk : 2 < k) : C221 (ctxY.under rankY k u) := fun s  => ⟨⟨.inl hk, s, rfl⟩, V221_eq s⟩
theorem G242 {k u : Nat} (hk : 1 < k) : C242 (ctxY.under rankY k u) := fun l sep hp0 hp1 hp2 => ⟨⟨.inl hk, l, sep, rfl, hp0, hp1, hp2⟩, V242_eq l sep⟩
theorem G254 {k u : Nat} (hk : 1 < k) : C254 (ctxY.under rankY k u) := fun s p hp0 hp1 => ⟨⟨.inl hk, s, p, rfl, hp0, hp1⟩, V254_eq s p⟩
theorem G294 {k u : Nat} (hk : 3 < k) : C294 (ctxY.under rankY k u) := fun l nm  => ⟨⟨.inl hk, l, nm, rfl⟩, V294_eq l nm⟩
theorem G309 {k u : Nat} (hk : 8 < k) : C309 (ctxY.under rankY k u) := fun s hp0 => ⟨⟨.inl hk, s, rfl, hp0⟩, V309_eq s⟩
theorem G310 {k u : Nat} (hk : 2 < k) : C310 (ctxY.under rankY k u) := fun a b  => ⟨⟨.inl hk, a, b, rfl⟩, V310_eq a b⟩
theorem G311 {k u : Nat} (hk : 1 < k) : C311 (ctxY.under rankY k u) := fun a b  => ⟨⟨.inl hk, a, b, rfl⟩, V311_eq a b⟩
theorem G312 {k u : Nat} (hk : 7 < k) : C312 (ctxY.under rankY k u) := fun l hp0 => ⟨⟨.inl hk, l, rfl, hp0⟩, V312_eq l⟩
theorem G313 {k u : Nat} (hk : 1 < k) : C313 (ctxY.under rankY k u) := fun n  => ⟨⟨.inl hk, n, rfl⟩, V313_eq n⟩
theorem G314 {k u : Nat} (hk : 5 < k) : C314 (ctxY.under rankY k u) := fun a b  => ⟨⟨.inl hk, a, b, rfl⟩, V314_eq a b⟩
theorem G315 {k u : Nat} (hk : 6 < k) : C315 (ctxY.under rankY k u) := fun l hp0 => ⟨⟨.inl hk, l, rfl, hp0⟩, V315_eq l⟩
theorem G316 {k u : Nat} (hk : 5 < k) : C316 (ctxY.under rankY k u) := fun v hp0 => ⟨⟨.inl hk, v, rfl, hp0⟩, V316_eq v⟩
theorem G336 {k u : Nat} (hk : 1 < k) : C336 (ctxY.under rankY k u) := fun n hp0 => ⟨⟨.inl hk, n, rfl, hp0⟩, V336_eq n⟩
theorem G349 {k u : Nat} (hk : 1 < k) : C349 (ctxY.under rankY k u) := fun s  => ⟨⟨.inl hk, s, rfl⟩, V349_eq s⟩
theorem G357 {k u : Nat} (hk : 2 < k) : C357 (ctxY.under rankY k u) := fun s  => ⟨⟨.inl hk, s, rfl⟩, V357_eq s⟩
theorem G418 {k u : Nat} (hk : 5 < k) : C418 (ctxY.under rankY k u) := fun x hp0 => ⟨⟨.inl hk, x, rfl, hp0⟩, V418_eq x⟩
theorem G440 {k u : Nat} (hk : 1 < k) : C440 (ctxY.under rankY k u) := fun n  => ⟨⟨.inl hk, n, rfl⟩, V440_eq n⟩
theorem G441 {k u : Nat} (hk : 3 < k) : C441 (ctxY.under rankY k u) := fun s hp0 => ⟨⟨.inl hk, s, rfl, hp0⟩, V441_eq s⟩
theorem G442 {k u : Nat} (hk : 2 < k) : C442 (ctxY.under rankY k u) := fun s hp0 => ⟨⟨.inl hk, s, rfl, hp0⟩, V442_eq s⟩
theorem G451 {k u : Nat} (hk : 5 < k) : C451 (ctxY.under rankY k u) := fun v hp0 => ⟨⟨.inl hk, v, rfl, hp0⟩, V451_eq v⟩
theorem G453 {k u : Nat} (hk : 1 < k) : C453 (ctxY.under rankY k u) := fun c  => ⟨⟨.inl hk, c, rfl⟩, V453_eq c⟩
theorem G454 {k u : Nat} (hk : 1 < k) : C454 (ctxY.under rankY k u) := fun c  => ⟨⟨.inl hk, c, rfl⟩, V454_eq c⟩
theorem G455 {k u : Nat} (hk : 1 < k) : C455 (ctxY.under rankY k u) := fun n  => ⟨⟨.inl hk, n, rfl⟩, V455_eq n⟩
theorem G456 {k u : Nat} (hk : 3 < k) : C456 (ctxY.under rankY k u) := fun s p hp0 => ⟨⟨.inl hk, s, p, rfl, hp0⟩, V456_eq s p⟩
theorem G463 {k u : Nat} (hk : 1 < k) : C463 (ctxY.under rankY k u) := fun h k hp0 => ⟨⟨.inl hk, h, k, rfl, hp0⟩, V463_eq h k⟩
theorem G464 {k u : Nat} (hk : 1 < k) : C464 (ctxY.under rankY k u) := fun h n hp0 => ⟨⟨.inl hk, h, n, rfl, hp0⟩, V464_eq h n⟩
theorem G466 {k u : Nat} (hk : 6 < k) : C466 (ctxY.under rankY k u) := fun s hp0 => ⟨⟨.inl hk, s, rfl, hp0⟩, V466_eq s⟩
theorem G470 {k u : Nat} (hk : 1 < k) : C470 (ctxY.under rankY k u) := fun s b hp0 => ⟨⟨.inl hk, s, b, rfl, hp0⟩, V470_eq s b⟩
theorem G486 {k u : Nat} (hk : 1 < k) : C486 (ctxY.under rankY k u) := fun a b  => ⟨⟨.inl hk, a, b, rfl⟩, V486_eq a b⟩
theorem G487 {k u : Nat} (hk : 1 < k) : C487 (ctxY.under rankY k u) := fun s b hp0 => ⟨⟨.inl hk, s, b, rfl, hp0⟩, V487_eq s b⟩
theorem G491 {k u : Nat} (hk : 1 < k) : C491 (ctxY.under rankY k u) := fun s b hp0 => ⟨⟨.inl hk, s, b, rfl, hp0⟩, V491_eq s b⟩
theorem G497 {k u : Nat} (hk : 2 < k) : C497 (ctxY.under rankY k u) := fun n  => ⟨⟨.inl hk, n, rfl⟩, V497_eq n⟩
theorem G499 {k u : Nat} (hk : 1 < k) : C499 (ctxY.under rankY k u) := fun s  => ⟨⟨.inl hk, s, rfl⟩, V499_eq s⟩
theorem G528 {k u : Nat} (hk : 2 < k) : C528 (ctxY.under rankY k u) := fun l nm  => ⟨⟨.inl hk, l, nm, rfl⟩, V528_eq l nm⟩
theorem G529 {k u : Nat} (hk : 1 < k) : C529 (ctxY.under rankY k u) := fun x nm  => ⟨⟨.inl hk, x, nm, rfl⟩, V529_eq x nm⟩
theorem G533 {k u : Nat} (hk : 1 < k) : C533 (ctxY.under rankY k u) := fun s b hp0 => ⟨⟨.inl hk, s, b, rfl, hp0⟩, V533_eq s b⟩
theorem G545 {k u : Nat} (hk : 2 < k) : C545 (ctxY.under rankY k u) := fun r hp0 hp1 hp2 => ⟨⟨.inl hk, r, rfl, rfl, hp0, hp1, hp2⟩, V545_eq r, S545_eq r⟩
theorem G546 {k u : Nat} (hk : 3 < k) : C546 (ctxY.under rankY k u) := fun s hp0 => ⟨⟨.inl hk, s, rfl, hp0⟩, V546_eq s⟩
theorem G547 {k u : Nat} (hk : 7 < k) : C547 (ctxY.under rankY k u) := fun t hp0 => ⟨⟨.inl hk, t, rfl, hp0⟩, V547_eq t⟩
theorem G548 {k u : Nat} (hk : 1 < k) : C548 (ctxY.under rankY k u) := fun s  => ⟨⟨.inl hk, s, rfl⟩, V548_eq s⟩
theorem G549 {k u : Nat} (hk : 6 < k) : C549 (ctxY.under rankY k u) := fun x hp0 => ⟨⟨.inl hk, x, rfl, hp0⟩, V549_eq x⟩
theorem G550 {k u : Nat} (hk : 4 < k) : C550 (ctxY.under rankY k u) := fun a b  => ⟨⟨.inl hk, a, b, rfl⟩, V550_eq a b⟩
theorem G551 {k u : Nat} (hk : 3 < k) : C551 (ctxY.under rankY k u) := fun a b  => ⟨⟨.inl hk, a, b, rfl⟩, V551_eq a b⟩
theorem G552 {k u : Nat} (hk : 2 < k) : C552 (ctxY.under rankY k u) := fun a b  => ⟨⟨.inl hk, a, b, rfl⟩, V552_eq a b⟩
theorem G553 {k u : Nat} (hk : 5 < k) : C553 (ctxY.under rankY k u) := fun x hp0 => ⟨⟨.inl hk, x, rfl, hp0⟩, V553_eq x⟩
theorem G554 {k u : Nat} (hk : 3 < k) : C554 (ctxY.under rankY k u) := fun v hp0 => ⟨⟨.inl hk, v, rfl, hp0⟩, V554_eq v⟩
theorem G571 {k u : Nat} (hk : 8 < k) : C571 (ctxY.under rankY k u) := fun l hp0 => ⟨⟨.inl hk, l, rfl, hp0⟩, V571_eq l⟩
theorem G594 {k u : Nat} (hk : 1 < k) : C594 (ctxY.under rankY k u) := fun l hp0 => ⟨⟨.inl hk, l, rfl, hp0⟩, V594_eq l⟩
theorem G658 {k u : Nat} (hk : 1 < k) : C658 (ctxY.under rankY k u) := fun s  => ⟨⟨.inl hk, s, rfl⟩, V658_eq s⟩
theorem G659 {k u : Nat} (hk : 1 < k) : C659 (ctxY.under rankY k u) := fun t  => ⟨⟨.inl hk, t, rfl⟩, V659_eq t⟩
theorem G665 {k u : Nat} (hk : 2 < k) : C665 (ctxY.under rankY k u) := fun n hp0 => ⟨⟨.inl hk, n, rfl, hp0⟩, V665_eq n⟩
theorem G666 {k u : Nat} (hk : 1 < k) : C666 (ctxY.under rankY k u) := fun t  => ⟨⟨.inl hk, t, rfl⟩, V666_eq t⟩
theorem G667 {k u : Nat} (hk : 2 < k) : C667 (ctxY.under rankY k u) := fun s  => ⟨⟨.inl hk, s, rfl⟩, V667_eq s⟩
theorem G668 {k u : Nat} (hk : 1 < k) : C668 (ctxY.under rankY k u) := fun t  => ⟨⟨.inl hk, t, rfl⟩, V668_eq t⟩
theorem G675 {k u : Nat} (hk : 1 < k) : C675 (ctxY.under rankY k u) := fun s b  => ⟨⟨.inl hk, s, b, rfl⟩, V675_eq s b⟩
theorem G686 {k u : Nat} (hk : 1 < k) : C686 (ctxY.under rankY k u) := fun k hp0 => ⟨⟨.inl hk, k, rfl, hp0⟩, V686_eq k⟩
theorem G733 {k u : Nat} (hk : 1 < k) : C733 (ctxY.under rankY k u) := fun s  => ⟨⟨.inl hk, s, rfl⟩, V733_eq s⟩
theorem G734 {k u : Nat} (hk : 2 < k) : C734 (ctxY.under rankY k u) := fun n hp0 => ⟨⟨.inl hk, n, rfl, hp0⟩, V734_eq n⟩
theorem G743 {k u : Nat} (hk : 7 < k) : C743 (ctxY.under rankY k u) := fun l hp0 => ⟨⟨.inl hk, l, rfl, hp0⟩, V743_eq l⟩
theorem G882 {k u : Nat} (hk : 1 < k) : C882 (ctxY.under rankY k u) := fun n hp0 => ⟨⟨.inl hk, n, rfl, hp0⟩, V882_eq n⟩
theorem G894 {k u : Nat} (hk : 1 < k) : C894 (ctxY.under rankY k u) := fun s  => ⟨⟨.inl hk, s, rfl⟩, V894_eq s⟩
theorem G895 {k u : Nat} (hk : 6 < k) : C895 (ctxY.under rankY k u) := fun x hp0 => ⟨⟨.inl hk, x, rfl, hp0⟩, V895_eq x⟩
theorem G1184 {k u : Nat} (hk : 1 < k) : C1184 (ctxY.under rankY k u) := fun l  => ⟨⟨.inl hk, l, rfl⟩, V1184_eq l⟩
theorem G1185 {k u : Nat} (hk : 1 < k) : C1185 (ctxY.under rankY k u) := fun a b  => ⟨⟨.inl hk, a, b, rfl⟩, V1185_eq a b⟩
end Go.Abs
end
section
namespace Go.Abs
def nuY : List (Nat × Nat) := [(3, 1186), (4, 1187), (5, 1188), (6, 1184), (7, 119), (8, 93), (9, 160), (10, 312), (11, 571), (12, 117), (13, 221), (14, 309), (15, 315), (16, 189), (17, 314), (18, 294), (19, 190), (20, 1185), (21, 101), (22, 594), (23, 313), (24, 25), (25, 112), (26, 29), (27, 109), (28, 111), (29, 548), (30, 549), (31, 497), (32, 220), (33, 743), (34, 310), (35, 464), (36, 545), (37, 546), (38, 254), (39, 491), (40, 499), (41, 547), (42, 553), (43, 138), (44, 144), (45, 418), (46, 550), (47, 551), (48, 552), (49, 528), (50, 529), (51, 159), (52, 451), (53, 242), (54, 686), (55, 463), (56, 894), (57, 895), (58, 311), (59, 487), (60, 124), (61, 733), (64, 466), (65, 349), (66, 208), (67, 209), (68, 357), (69, 216), (70, 217), (71, 486), (72, 665), (76, 316), (81, 675), (82, 533), (83, 658), (84, 440), (85, 441), (86, 442), (87, 453), (88, 454), (89, 455), (90, 456), (91, 336), (94, 554), (101, 659), (102, 470), (103, 666), (104, 667), (105, 668), (109, 734), (116, 882)]
def effY : List Nat := [219, 1091]
theorem mixY : (Go.Proofs.Tryz.prog).follows .mixedOrders = true := by kernel_rfl
end Go.Abs
end
