/- A part of the proofs of the statements of package linchpinlaw33: T23, Y0, Y1, SHELF, LLib, YG, Y2a. -/
import Derived.KernelRfl
import Derived.Lib.CountLaws
import Derived.Lib.IndexMore
import Derived.Lib.ItoaNum
import Derived.Lib.Join
import Derived.Lib.Split
import Derived.Lib.SplitLaws
import Derived.Lib.Strings
import Derived.Shelf.LaysM
import Derived.Shelf.Small.Wraps
import Derived.Shelf.Strconv.Itoa0
import Derived.Shelf.Strconv.Itoa1
import Derived.Shelf.Strconv.Itoa2
import Derived.Shelf.Strconv.Itoa3
import Derived.Shelf.Strings.Builder1
import Derived.Shelf.Strings.Builder2
import Derived.Shelf.Strings.Count
import Derived.Shelf.Strings.Cut
import Derived.Shelf.Strings.OnBuilder
import Derived.Shelf.Strings.Prefix
import Derived.Shelf.Strings.Search1
import Derived.Shelf.Strings.Search2
import Derived.Shelf.Strings.Search3
import Derived.Shelf.Strings.Shaped
import Derived.Shelf.Strings.Split
import Derived.Shelf.Strings.SplitShaped
import Derived.Shelf.Unicode.DecodeSlow
import Derived.Test.YtbpdiikonpbgeaaGreatDoorProg
import Derived.Test.YtbpdiikonpbgeaaGreatDoorP10
set_option linter.all false
section
namespace Go.Abs
open Go
/-- linchpin/linchpinlaw33.LockMay -/
def law33_LockMay : AFunc := { np := 6, ns := 11, res := [⟨6, none⟩], rsh := [[.a]], body := (.seq (.reg false [⟨.box 4 (.s 0), none⟩, ⟨.mv (.c (.bool false)), none⟩] [(7, 0), (6, 1)]) (.seq (.seq (.reg false [⟨.ld 4 true (.s 7), none⟩, ⟨.call 1184 [(.l 0)] [[.a, .a, .a, .sl 9 [.a, .a, .a, .a, .a, .a, .a, .a, .sl 1 [.a]]]], none⟩, ⟨.un .not (.l 1), none⟩, ⟨.mv (.l 2), none⟩, ⟨.mv (.s 1), some (3, false)⟩, ⟨.len (.l 4), some (3, false)⟩, ⟨.bin .gtr (.l 5) (.c (.int .i64 60)), some (3, false)⟩, ⟨.pick (.l 3) (.c (.bool true)) (.l 6), none⟩, ⟨.mv (.l 7), none⟩, ⟨.mv (.s 5), some (8, false)⟩, ⟨.lenS (.l 9), some (8, false)⟩, ⟨.bin .gtr (.l 10) (.c (.int .i64 100)), some (8, false)⟩, ⟨.pick (.l 8) (.c (.bool true)) (.l 11), none⟩] [(8, 12)]) (.cond (.s 8) (.seq (.reg false [⟨.call 119 [] [], none⟩, ⟨.mv (.l 0), none⟩] [(6, 1)]) .ret) .skip)) (.seq (.reg false [⟨.mv (.s 1), none⟩, ⟨.call 160 [(.l 0)] [[.sl 1 [.a]]], none⟩, ⟨.box 4 (.c (.agg [.str [], .str [], .str [], .nils])), none⟩, ⟨.st 4 (.l 2) (.l 1), none⟩] [(9, 2)]) (.seq (.reg false [⟨.ld 4 true (.s 9), none⟩, ⟨.mv (.s 2), none⟩, ⟨.mv (.s 3), none⟩, ⟨.mv (.s 4), none⟩, ⟨.call 93 [(.l 0), (.l 1), (.l 2), (.l 3)] [[.a, .a, .a, .sl 9 [.a, .a, .a, .a, .a, .a, .a, .a, .sl 1 [.a]]], [.a], [.a], [.a]], none⟩, ⟨.box 4 (.c (.agg [.str [], .str [], .str [], .nils])), none⟩, ⟨.st 4 (.l 5) (.l 4), none⟩] [(10, 5)]) (.seq (.reg true [⟨.ld 4 true (.s 7), none⟩, ⟨.call 315 [(.l 0)] [[.a, .a, .a, .sl 9 [.a, .a, .a, .a, .a, .a, .a, .a, .sl 1 [.a]]]], none⟩, ⟨.ld 4 true (.s 7), none⟩, ⟨.call 189 [(.l 2)] [[.a, .a, .a, .sl 9 [.a, .a, .a, .a, .a, .a, .a, .a, .sl 1 [.a]]]], none⟩, ⟨.eqA false false [.b] (.l 1) (.l 3), none⟩, ⟨.mv (.l 4), none⟩, ⟨.ld 4 true (.s 9), some (5, true)⟩, ⟨.call 315 [(.l 6)] [[.a, .a, .a, .sl 9 [.a, .a, .a, .a, .a, .a, .a, .a, .sl 1 [.a]]]], some (5, true)⟩, ⟨.ld 4 true (.s 9), some (5, true)⟩, ⟨.call 189 [(.l 8)] [[.a, .a, .a, .sl 9 [.a, .a, .a, .a, .a, .a, .a, .a, .sl 1 [.a]]]], some (5, true)⟩, ⟨.eqA false false [.b] (.l 7) (.l 9), some (5, true)⟩, ⟨.pick (.l 5) (.l 10) (.c (.bool false)), none⟩, ⟨.mv (.l 11), none⟩, ⟨.ld 4 true (.s 10), some (12, true)⟩, ⟨.call 315 [(.l 13)] [[.a, .a, .a, .sl 9 [.a, .a, .a, .a, .a, .a, .a, .a, .sl 1 [.a]]]], some (12, true)⟩, ⟨.ld 4 true (.s 10), some (12, true)⟩, ⟨.call 189 [(.l 15)] [[.a, .a, .a, .sl 9 [.a, .a, .a, .a, .a, .a, .a, .a, .sl 1 [.a]]]], some (12, true)⟩, ⟨.eqA false false [.b] (.l 14) (.l 16), some (12, true)⟩, ⟨.pick (.l 12) (.l 17) (.c (.bool false)), none⟩, ⟨.mv (.l 18), none⟩, ⟨.ld 4 true (.s 9), some (19, true)⟩, ⟨.ld 4 true (.s 10), some (19, true)⟩, ⟨.call 314 [(.l 20), (.l 21)] [[.a, .a, .a, .sl 9 [.a, .a, .a, .a, .a, .a, .a, .a, .sl 1 [.a]]], [.a, .a, .a, .sl 9 [.a, .a, .a, .a, .a, .a, .a, .a, .sl 1 [.a]]]], some (19, true)⟩, ⟨.ld 4 true (.s 9), some (19, true)⟩, ⟨.ld 4 true (.s 10), some (19, true)⟩, ⟨.call 117 [(.l 23), (.l 24)] [[.a, .a, .a, .sl 9 [.a, .a, .a, .a, .a, .a, .a, .a, .sl 1 [.a]]], [.a, .a, .a, .sl 9 [.a, .a, .a, .a, .a, .a, .a, .a, .sl 1 [.a]]]], some (19, true)⟩, ⟨.eqA false false [.b] (.l 22) (.l 25), some (19, true)⟩, ⟨.pick (.l 19) (.l 26) (.c (.bool false)), none⟩, ⟨.mv (.l 27), none⟩, ⟨.ld 4 true (.s 7), some (28, true)⟩, ⟨.ld 4 true (.s 10), some (28, true)⟩, ⟨.call 314 [(.l 29), (.l 30)] [[.a, .a, .a, .sl 9 [.a, .a, .a, .a, .a, .a, .a, .a, .sl 1 [.a]]], [.a, .a, .a, .sl 9 [.a, .a, .a, .a, .a, .a, .a, .a, .sl 1 [.a]]]], some (28, true)⟩, ⟨.ld 4 true (.s 7), some (28, true)⟩, ⟨.ld 4 true (.s 10), some (28, true)⟩, ⟨.call 117 [(.l 32), (.l 33)] [[.a, .a, .a, .sl 9 [.a, .a, .a, .a, .a, .a, .a, .a, .sl 1 [.a]]], [.a, .a, .a, .sl 9 [.a, .a, .a, .a, .a, .a, .a, .a, .sl 1 [.a]]]], some (28, true)⟩, ⟨.eqA false false [.b] (.l 31) (.l 34), some (28, true)⟩, ⟨.pick (.l 28) (.l 35) (.c (.bool false)), none⟩, ⟨.mv (.l 36), none⟩, ⟨.ld 4 true (.s 10), some (37, true)⟩, ⟨.mv (.s 5), some (37, true)⟩, ⟨.call 294 [(.l 38), (.l 39)] [[.a, .a, .a, .sl 9 [.a, .a, .a, .a, .a, .a, .a, .a, .sl 1 [.a]]], [.a]], some (37, true)⟩, ⟨.ld 4 true (.s 10), some (37, true)⟩, ⟨.mv (.s 5), some (37, true)⟩, ⟨.call 190 [(.l 41), (.l 42)] [[.a, .a, .a, .sl 9 [.a, .a, .a, .a, .a, .a, .a, .a, .sl 1 [.a]]], [.a]], some (37, true)⟩, ⟨.bin .eql (.l 40) (.l 43), some (37, true)⟩, ⟨.pick (.l 37) (.l 44) (.c (.bool false)), none⟩, ⟨.mv (.l 45), none⟩, ⟨.ld 4 true (.s 7), some (46, true)⟩, ⟨.call 294 [(.l 47), (.c (.str [99, 111, 119]))] [[.a, .a, .a, .sl 9 [.a, .a, .a, .a, .a, .a, .a, .a, .sl 1 [.a]]], [.a]], some (46, true)⟩, ⟨.ld 4 true (.s 7), some (46, true)⟩, ⟨.call 190 [(.l 49), (.c (.str [99, 111, 119]))] [[.a, .a, .a, .sl 9 [.a, .a, .a, .a, .a, .a, .a, .a, .sl 1 [.a]]], [.a]], some (46, true)⟩, ⟨.bin .eql (.l 48) (.l 50), some (46, true)⟩, ⟨.pick (.l 46) (.l 51) (.c (.bool false)), none⟩, ⟨.mv (.l 52), none⟩, ⟨.ld 4 true (.s 10), some (53, true)⟩, ⟨.call 101 [(.l 54)] [[.a, .a, .a, .sl 9 [.a, .a, .a, .a, .a, .a, .a, .a, .sl 1 [.a]]]], some (53, true)⟩, ⟨.ld 4 true (.s 10), some (53, true)⟩, ⟨.call 594 [(.l 56)] [[.a, .a, .a, .sl 9 [.a, .a, .a, .a, .a, .a, .a, .a, .sl 1 [.a]]]], some (53, true)⟩, ⟨.call 1185 [(.l 55), (.l 57)] [[.sl 6 [.a, .a, .a, .a, .a, .a]], [.sl 6 [.a, .a, .a, .a, .a, .a]]], some (53, true)⟩, ⟨.pick (.l 53) (.l 58) (.c (.bool false)), none⟩, ⟨.mv (.l 59), none⟩, ⟨.ld 4 true (.s 7), some (60, true)⟩, ⟨.call 101 [(.l 61)] [[.a, .a, .a, .sl 9 [.a, .a, .a, .a, .a, .a, .a, .a, .sl 1 [.a]]]], some (60, true)⟩, ⟨.ld 4 true (.s 7), some (60, true)⟩, ⟨.call 594 [(.l 63)] [[.a, .a, .a, .sl 9 [.a, .a, .a, .a, .a, .a, .a, .a, .sl 1 [.a]]]], some (60, true)⟩, ⟨.call 1185 [(.l 62), (.l 64)] [[.sl 6 [.a, .a, .a, .a, .a, .a]], [.sl 6 [.a, .a, .a, .a, .a, .a]]], some (60, true)⟩, ⟨.pick (.l 60) (.l 65) (.c (.bool false)), none⟩, ⟨.mv (.l 66), none⟩, ⟨.call 119 [] [], some (67, true)⟩, ⟨.pick (.l 67) (.l 68) (.c (.bool false)), none⟩, ⟨.mv (.l 69), none⟩] [(6, 70)]) .ret))))) }
theorem w1188 {Γ : Ctx} (hm : (Γ.at 0).Mono) (h93 : C93 (Γ.at 0)) (h101 : C101 (Γ.at 0)) (h117 : C117 (Γ.at 0)) (h119 : C119 (Γ.at 0)) (h160 : C160 (Γ.at 0)) (h189 : C189 (Γ.at 0)) (h190 : C190 (Γ.at 0)) (h294 : C294 (Γ.at 0)) (h314 : C314 (Γ.at 0)) (h315 : C315 (Γ.at 0)) (h594 : C594 (Γ.at 0)) (h1184 : C1184 (Γ.at 0)) (h1185 : C1185 (Γ.at 0)) (raw : Lck) (ks : List Int) (pa : Int) (pw : Int) (pb : Int) (nm : Str) (hp0 : raw.sm) : wpA (Γ.at 0) law33_LockMay.body (Res law33_LockMay (.bool true) : Ex → List Ent → St → Prop) (env0 law33_LockMay [Lck.D raw, .sl 1 (ks.map (D.int .i64)), .int .i64 pa, .int .i64 pw, .int .i64 pb, .str nm]) ⟨0, []⟩ := by
  show wpA _ _ _ [⟨true, Lck.D raw⟩, ⟨true, .sl 1 (ks.map (D.int .i64))⟩, ⟨true, .int .i64 pa⟩, ⟨true, .int .i64 pw⟩, ⟨true, .int .i64 pb⟩, ⟨true, .str nm⟩, .un, .un, .un, .un, .un] ⟨0, []⟩
  have hl2 := lockM_ok ks
  have hb3 := bentM_ok hl2 pa pw pb
  have hls := hl2.sm (by omega)
  have hbs := hb3.sm (by omega)
  refine wp_regseq ?_; refine r_box ?_; refine r_mv ?_; refine reg_end (env' := [_, _, _, _, _, _, ⟨_, (.bool _)⟩, ⟨_, _⟩, _, _, _]) ?_; refine wp_assoc ?_; refine wp_regseq ?_; refine r_ldB (d := Lck.D raw) ?_; refine r_call (hc := h1184 _) ?_; refine r_not ?_; refine r_mv ?_; refine r_mv ?_
  refine r_lenM fun _ => ?_
  refine r_gtrI ?_; refine r_or ?_; refine r_mv ?_; refine r_mv ?_
  refine r_lenS fun _ => ?_
  refine r_gtrI ?_; refine r_or ?_; refine reg_end (env' := [_, _, _, _, _, _, _, _, ⟨_, (.bool _)⟩, _, _]) ?_
  refine wp_condseq (fun hc0 => ?_) (fun hc0 => ?_)
  · try simp only [b0, b1, b2, b3, b4, b5, b6, b7, b8, b9, b10, b11] at hc0
    refine wp_assoc ?_; refine wp_regseq ?_; refine r_call (hc := h119 ) ?_; refine r_mv ?_; refine reg_end (env' := [_, _, _, _, _, _, ⟨_, (.bool _)⟩, _, _, _, _]) ?_; refine wp_retseq ?_
    refine res_of trivial q2 q3 (Eq.trans q7 (congrArg D.bool ?_))
    first | rfl | (simp; done)
  · try simp only [b0, b1, b2, b3, b4, b5, b6, b7, b8, b9, b10, b11] at hc0
    refine wp_skipseq ?_; refine wp_regseq ?_; refine r_mv ?_; refine r_call (hc := h160 ks) ?_; refine r_box ?_; refine r_stF (Lck.D (lockM ks)) (he := by exact rfl) ?_; refine reg_end (env' := [_, _, _, _, _, _, _, _, _, ⟨_, _⟩, _]) ?_; refine wp_regseq ?_; refine r_ldB (d := Lck.D (lockM ks)) ?_; refine r_mv ?_; refine r_mv ?_; refine r_mv ?_; refine r_call (hc := h93 (lockM ks) pa pw pb hls) ?_; refine r_box ?_; refine r_stF (Lck.D (bentM (lockM ks) pa pw pb)) (he := by exact rfl) ?_; refine reg_end (env' := [_, _, _, _, _, _, _, _, _, _, ⟨_, _⟩]) ?_; refine wp_regseq ?_; refine r_ldB (d := Lck.D raw) ?_
    refine r_call (hc := h315 raw hp0) ?_; refine r_ldB (d := Lck.D raw) ?_; refine r_call (hc := h189 raw hp0) ?_; refine r_eqP (hb := eqDs_bool _) ?_; refine r_mv ?_; refine r_ldB (d := Lck.D (lockM ks)) ?_
    refine r_callG (hc := fun _ => h315 (lockM ks) hls) ?_
    refine r_ldB (d := Lck.D (lockM ks)) ?_
    refine r_callG (hc := fun _ => h189 (lockM ks) hls) ?_
    refine r_eqP (hb := eqDs_bool _) ?_; refine r_and ?_; refine r_mv ?_; refine r_ldB (d := Lck.D (bentM (lockM ks) pa pw pb)) ?_
    refine r_callG (hc := fun _ => h315 (bentM (lockM ks) pa pw pb) hbs) ?_
    refine r_ldB (d := Lck.D (bentM (lockM ks) pa pw pb)) ?_
    refine r_callG (hc := fun _ => h189 (bentM (lockM ks) pa pw pb) hbs) ?_
    refine r_eqP (hb := eqDs_bool _) ?_; refine r_and ?_; refine r_mv ?_; refine r_ldB (d := Lck.D (lockM ks)) ?_; refine r_ldB (d := Lck.D (bentM (lockM ks) pa pw pb)) ?_; refine r_call (hc := h314 (lockM ks) (bentM (lockM ks) pa pw pb)) ?_; refine r_ldB (d := Lck.D (lockM ks)) ?_; refine r_ldB (d := Lck.D (bentM (lockM ks) pa pw pb)) ?_; refine r_call (hc := h117 (lockM ks) (bentM (lockM ks) pa pw pb)) ?_; refine r_eqP (hb := eqDs_bool _) ?_; refine r_and ?_; refine r_mv ?_; refine r_ldB (d := Lck.D raw) ?_; refine r_ldB (d := Lck.D (bentM (lockM ks) pa pw pb)) ?_; refine r_call (hc := h314 raw (bentM (lockM ks) pa pw pb)) ?_
    refine r_ldB (d := Lck.D raw) ?_; refine r_ldB (d := Lck.D (bentM (lockM ks) pa pw pb)) ?_; refine r_call (hc := h117 raw (bentM (lockM ks) pa pw pb)) ?_; refine r_eqP (hb := eqDs_bool _) ?_; refine r_and ?_; refine r_mv ?_; refine r_ldB (d := Lck.D (bentM (lockM ks) pa pw pb)) ?_; refine r_mv ?_; refine r_call (hc := h294 (bentM (lockM ks) pa pw pb) nm) ?_; refine r_ldB (d := Lck.D (bentM (lockM ks) pa pw pb)) ?_; refine r_mv ?_; refine r_call (hc := h190 (bentM (lockM ks) pa pw pb) nm) ?_; refine r_eqlI ?_; refine r_and ?_; refine r_mv ?_; refine r_ldB (d := Lck.D raw) ?_; refine r_call (hc := h294 raw [99, 111, 119]) ?_
    refine r_ldB (d := Lck.D raw) ?_; refine r_call (hc := h190 raw [99, 111, 119]) ?_; refine r_eqlI ?_; refine r_and ?_; refine r_mv ?_; refine r_ldB (d := Lck.D (bentM (lockM ks) pa pw pb)) ?_
    refine r_callG (hc := fun _ => h101 (bentM (lockM ks) pa pw pb) hbs) ?_
    refine r_ldB (d := Lck.D (bentM (lockM ks) pa pw pb)) ?_
    refine r_callG (hc := fun _ => h594 (bentM (lockM ks) pa pw pb) hbs) ?_
    refine r_call (hc := h1185 _ _) ?_; refine r_and ?_; refine r_mv ?_; refine r_ldB (d := Lck.D raw) ?_
    refine r_callG (hc := fun _ => h101 raw hp0) ?_
    refine r_ldB (d := Lck.D raw) ?_
    refine r_callG (hc := fun _ => h594 raw hp0) ?_
    refine r_call (hc := h1185 _ _) ?_; refine r_and ?_; refine r_mv ?_; refine r_call (hc := h119 ) ?_; refine r_and ?_; refine r_mv ?_; refine reg_end (env' := [_, _, _, _, _, _, ⟨_, (.bool _)⟩, _, _, _, _]) ?_; refine wp_ret ?_
    refine res_of trivial q2 q3 (Eq.trans q7 (congrArg D.bool ?_))
    first | rfl | (simp; done)
/-- linchpin/linchpinlaw33.LockPrints -/
def law33_LockPrints : AFunc := { np := 5, ns := 18, res := [⟨5, none⟩], rsh := [[.a]], body := (.seq (.reg false [⟨.box 4 (.s 0), none⟩, ⟨.mv (.c (.bool false)), none⟩] [(6, 0), (5, 1)]) (.seq (.seq (.reg false [⟨.ld 4 true (.s 6), none⟩, ⟨.call 1184 [(.l 0)] [[.a, .a, .a, .sl 9 [.a, .a, .a, .a, .a, .a, .a, .a, .sl 1 [.a]]]], none⟩, ⟨.un .not (.l 1), none⟩, ⟨.mv (.l 2), none⟩, ⟨.mv (.s 1), some (3, false)⟩, ⟨.len (.l 4), some (3, false)⟩, ⟨.bin .gtr (.l 5) (.c (.int .i64 60)), some (3, false)⟩, ⟨.pick (.l 3) (.c (.bool true)) (.l 6), none⟩] [(7, 7)]) (.cond (.s 7) (.seq (.reg false [⟨.call 119 [] [], none⟩, ⟨.mv (.l 0), none⟩] [(5, 1)]) .ret) .skip)) (.seq (.reg false [⟨.mv (.s 1), none⟩, ⟨.call 160 [(.l 0)] [[.sl 1 [.a]]], none⟩, ⟨.mv (.s 2), none⟩, ⟨.mv (.s 3), none⟩, ⟨.mv (.s 4), none⟩, ⟨.call 93 [(.l 1), (.l 2), (.l 3), (.l 4)] [[.a, .a, .a, .sl 9 [.a, .a, .a, .a, .a, .a, .a, .a, .sl 1 [.a]]], [.a], [.a], [.a]], none⟩, ⟨.box 4 (.c (.agg [.str [], .str [], .str [], .nils])), none⟩, ⟨.st 4 (.l 6) (.l 5), none⟩] [(8, 6)]) (.seq (.reg false [⟨.ld 4 true (.s 8), none⟩, ⟨.call 93 [(.l 0), (.c (.int .i64 0)), (.c (.int .i64 3)), (.c (.int .i64 0))] [[.a, .a, .a, .sl 9 [.a, .a, .a, .a, .a, .a, .a, .a, .sl 1 [.a]]], [.a], [.a], [.a]], none⟩, ⟨.box 4 (.c (.agg [.str [], .str [], .str [], .nils])), none⟩, ⟨.st 4 (.l 2) (.l 1), none⟩] [(9, 2)]) (.seq (.reg false [⟨.ld 4 true (.s 9), none⟩, ⟨.call 312 [(.l 0)] [[.a, .a, .a, .sl 9 [.a, .a, .a, .a, .a, .a, .a, .a, .sl 1 [.a]]]], none⟩, ⟨.mv (.l 1), none⟩, ⟨.ext (.l 2) 0, none⟩, ⟨.ext (.l 2) 1, none⟩, ⟨.mv (.l 3), none⟩, ⟨.mv (.l 4), none⟩] [(10, 5), (12, 6)]) (.seq (.reg false [⟨.ld 4 true (.s 8), none⟩, ⟨.call 571 [(.l 0)] [[.a, .a, .a, .sl 9 [.a, .a, .a, .a, .a, .a, .a, .a, .sl 1 [.a]]]], none⟩, ⟨.mv (.l 1), none⟩, ⟨.ext (.l 2) 0, none⟩, ⟨.ext (.l 2) 1, none⟩, ⟨.mv (.l 3), none⟩, ⟨.mv (.l 4), none⟩] [(11, 5), (13, 6)]) (.seq (.reg false [⟨.ld 4 true (.s 6), none⟩, ⟨.call 312 [(.l 0)] [[.a, .a, .a, .sl 9 [.a, .a, .a, .a, .a, .a, .a, .a, .sl 1 [.a]]]], none⟩, ⟨.mv (.l 1), none⟩, ⟨.ext (.l 2) 0, none⟩, ⟨.ext (.l 2) 1, none⟩, ⟨.mv (.l 3), none⟩, ⟨.mv (.l 4), none⟩] [(14, 5), (16, 6)]) (.seq (.reg false [⟨.ld 4 true (.s 6), none⟩, ⟨.call 571 [(.l 0)] [[.a, .a, .a, .sl 9 [.a, .a, .a, .a, .a, .a, .a, .a, .sl 1 [.a]]]], none⟩, ⟨.mv (.l 1), none⟩, ⟨.ext (.l 2) 0, none⟩, ⟨.ext (.l 2) 1, none⟩, ⟨.mv (.l 3), none⟩, ⟨.mv (.l 4), none⟩] [(15, 5), (17, 6)]) (.seq (.reg false [⟨.mv (.s 10), none⟩, ⟨.mv (.s 11), none⟩, ⟨.bin .eql (.l 0) (.l 1), none⟩, ⟨.mv (.l 2), none⟩, ⟨.mv (.s 12), some (3, true)⟩, ⟨.mv (.s 13), some (3, true)⟩, ⟨.bin .eql (.l 4) (.l 5), some (3, true)⟩, ⟨.pick (.l 3) (.l 6) (.c (.bool false)), none⟩, ⟨.mv (.l 7), none⟩, ⟨.mv (.s 14), some (8, true)⟩, ⟨.mv (.s 15), some (8, true)⟩, ⟨.bin .eql (.l 9) (.l 10), some (8, true)⟩, ⟨.pick (.l 8) (.l 11) (.c (.bool false)), none⟩, ⟨.mv (.l 12), none⟩, ⟨.mv (.s 16), some (13, true)⟩, ⟨.mv (.s 17), some (13, true)⟩, ⟨.bin .eql (.l 14) (.l 15), some (13, true)⟩, ⟨.pick (.l 13) (.l 16) (.c (.bool false)), none⟩, ⟨.mv (.l 17), none⟩, ⟨.ld 4 true (.s 8), some (18, true)⟩, ⟨.ld 4 true (.s 9), some (18, true)⟩, ⟨.call 117 [(.l 19), (.l 20)] [[.a, .a, .a, .sl 9 [.a, .a, .a, .a, .a, .a, .a, .a, .sl 1 [.a]]], [.a, .a, .a, .sl 9 [.a, .a, .a, .a, .a, .a, .a, .a, .sl 1 [.a]]]], some (18, true)⟩, ⟨.pick (.l 18) (.l 21) (.c (.bool false)), none⟩, ⟨.mv (.l 22), none⟩, ⟨.call 119 [] [], some (23, true)⟩, ⟨.pick (.l 23) (.l 24) (.c (.bool false)), none⟩, ⟨.mv (.l 25), none⟩] [(5, 26)]) .ret))))))))) }
theorem w1186 {Γ : Ctx} (hm : (Γ.at 0).Mono) (h93 : C93 (Γ.at 0)) (h117 : C117 (Γ.at 0)) (h119 : C119 (Γ.at 0)) (h160 : C160 (Γ.at 0)) (h312 : C312 (Γ.at 0)) (h571 : C571 (Γ.at 0)) (h1184 : C1184 (Γ.at 0)) (raw : Lck) (ks : List Int) (pa : Int) (pw : Int) (pb : Int) (hp0 : raw.sm) : wpA (Γ.at 0) law33_LockPrints.body (Res law33_LockPrints (.bool true) : Ex → List Ent → St → Prop) (env0 law33_LockPrints [Lck.D raw, .sl 1 (ks.map (D.int .i64)), .int .i64 pa, .int .i64 pw, .int .i64 pb]) ⟨0, []⟩ := by
  show wpA _ _ _ [⟨true, Lck.D raw⟩, ⟨true, .sl 1 (ks.map (D.int .i64))⟩, ⟨true, .int .i64 pa⟩, ⟨true, .int .i64 pw⟩, ⟨true, .int .i64 pb⟩, .un, .un, .un, .un, .un, .un, .un, .un, .un, .un, .un, .un, .un] ⟨0, []⟩
  have hl2 := lockM_ok ks
  have hb3 := bentM_ok hl2 pa pw pb
  have hls := hl2.sm (by omega)
  have hbs := hb3.sm (by omega)
  refine wp_regseq ?_; refine r_box ?_; refine r_mv ?_; refine reg_end (env' := [_, _, _, _, _, ⟨_, (.bool _)⟩, ⟨_, _⟩, _, _, _, _, _, _, _, _, _, _, _]) ?_; refine wp_assoc ?_; refine wp_regseq ?_; refine r_ldB (d := Lck.D raw) ?_; refine r_call (hc := h1184 _) ?_; refine r_not ?_; refine r_mv ?_; refine r_mv ?_
  refine r_lenM fun _ => ?_
  refine r_gtrI ?_; refine r_or ?_; refine reg_end (env' := [_, _, _, _, _, _, _, ⟨_, (.bool _)⟩, _, _, _, _, _, _, _, _, _, _]) ?_
  refine wp_condseq (fun hc0 => ?_) (fun hc0 => ?_)
  · try simp only [b0, b1, b2, b3, b4, b5, b6, b7, b8, b9, b10, b11] at hc0
    refine wp_assoc ?_; refine wp_regseq ?_; refine r_call (hc := h119 ) ?_; refine r_mv ?_; refine reg_end (env' := [_, _, _, _, _, ⟨_, (.bool _)⟩, _, _, _, _, _, _, _, _, _, _, _, _]) ?_; refine wp_retseq ?_
    refine res_of trivial q2 q3 (Eq.trans q7 (congrArg D.bool ?_))
    first | rfl | (simp; done)
  · try simp only [b0, b1, b2, b3, b4, b5, b6, b7, b8, b9, b10, b11] at hc0
    refine wp_skipseq ?_; refine wp_regseq ?_; refine r_mv ?_; refine r_call (hc := h160 ks) ?_; refine r_mv ?_; refine r_mv ?_; refine r_mv ?_; refine r_call (hc := h93 (lockM ks) pa pw pb hls) ?_; refine r_box ?_; refine r_stF (Lck.D (bentM (lockM ks) pa pw pb)) (he := by exact rfl) ?_; refine reg_end (env' := [_, _, _, _, _, _, _, _, ⟨_, _⟩, _, _, _, _, _, _, _, _, _]) ?_; refine wp_regseq ?_; refine r_ldB (d := Lck.D (bentM (lockM ks) pa pw pb)) ?_
    refine r_call (hc := h93 (bentM (lockM ks) pa pw pb) 0 3 0 hbs) ?_; rw [bent_same hb3]
    refine r_box ?_; refine r_stF (Lck.D (bentM (lockM ks) pa pw pb)) (he := by exact rfl) ?_; refine reg_end (env' := [_, _, _, _, _, _, _, _, _, ⟨_, _⟩, _, _, _, _, _, _, _, _]) ?_; refine wp_regseq ?_; refine r_ldB (d := Lck.D (bentM (lockM ks) pa pw pb)) ?_; refine r_call (hc := h312 (bentM (lockM ks) pa pw pb) hbs) ?_; refine r_mv ?_; refine r_ext (.str _) ?_; refine r_ext (.int _ _) ?_; refine r_mv ?_; refine r_mv ?_; refine reg_end (env' := [_, _, _, _, _, _, _, _, _, _, ⟨_, (.str _)⟩, _, ⟨_, (.int _ _)⟩, _, _, _, _, _]) ?_; refine wp_regseq ?_; refine r_ldB (d := Lck.D (bentM (lockM ks) pa pw pb)) ?_
    refine r_call (hc := h571 (bentM (lockM ks) pa pw pb) hbs) ?_; refine r_mv ?_; refine r_ext (.str _) ?_; refine r_ext (.int _ _) ?_; refine r_mv ?_; refine r_mv ?_; refine reg_end (env' := [_, _, _, _, _, _, _, _, _, _, _, ⟨_, (.str _)⟩, _, ⟨_, (.int _ _)⟩, _, _, _, _]) ?_; refine wp_regseq ?_; refine r_ldB (d := Lck.D raw) ?_; refine r_call (hc := h312 raw hp0) ?_; refine r_mv ?_; refine r_ext (.str _) ?_; refine r_ext (.int _ _) ?_; refine r_mv ?_; refine r_mv ?_; refine reg_end (env' := [_, _, _, _, _, _, _, _, _, _, _, _, _, _, ⟨_, (.str _)⟩, _, ⟨_, (.int _ _)⟩, _]) ?_; refine wp_regseq ?_
    refine r_ldB (d := Lck.D raw) ?_; refine r_call (hc := h571 raw hp0) ?_; refine r_mv ?_; refine r_ext (.str _) ?_; refine r_ext (.int _ _) ?_; refine r_mv ?_; refine r_mv ?_; refine reg_end (env' := [_, _, _, _, _, _, _, _, _, _, _, _, _, _, _, ⟨_, (.str _)⟩, _, ⟨_, (.int _ _)⟩]) ?_; refine wp_regseq ?_; refine r_mv ?_; refine r_mv ?_; refine r_eqlS ?_; refine r_mv ?_; refine r_mv ?_; refine r_mv ?_; refine r_eqlI ?_; refine r_and ?_; refine r_mv ?_; refine r_mv ?_; refine r_mv ?_; refine r_eqlS ?_; refine r_and ?_; refine r_mv ?_; refine r_mv ?_; refine r_mv ?_; refine r_eqlI ?_; refine r_and ?_
    refine r_mv ?_; refine r_ldB (d := Lck.D (bentM (lockM ks) pa pw pb)) ?_; refine r_ldB (d := Lck.D (bentM (lockM ks) pa pw pb)) ?_; refine r_call (hc := h117 (bentM (lockM ks) pa pw pb) (bentM (lockM ks) pa pw pb)) ?_; refine r_and ?_; refine r_mv ?_; refine r_call (hc := h119 ) ?_; refine r_and ?_; refine r_mv ?_; refine reg_end (env' := [_, _, _, _, _, ⟨_, (.bool _)⟩, _, _, _, _, _, _, _, _, _, _, _, _]) ?_; refine wp_ret ?_
    refine res_of trivial q2 q3 (Eq.trans q7 (congrArg D.bool ?_))
    first | rfl | (simp; done)
end Go.Abs
end
section
namespace Go.Abs
/-- linchpin/linchpinmade.Place -/
def P25 (ds : List D) : Prop := ∃ (v : Int) (n : Int), ds = [.int .i64 v, .int .i64 n] ∧ (n ≤ 9223372036854775807)
def V25 (ds : List D) : D := let v := unI (ds.getD 0 .any); let n := unI (ds.getD 1 .any); (.int .i64 (placeI v n) : D)
theorem V25_eq (v : Int) (n : Int) : V25 [.int .i64 v, .int .i64 n] = .int .i64 (placeI v n) := by
  have e0 : unI (.int .i64 v) = v := rfl
  have e1 : unI (.int .i64 n) = n := rfl
  show (fun (v : Int) (n : Int) => (.int .i64 (placeI v n) : D)) (unI (.int .i64 v)) (unI (.int .i64 n)) = _
  rw [e0, e1]
/-- linchpin/linchpinmade.Env -/
def P29 (ds : List D) : Prop := ∃ (n : Int), ds = [.int .i64 n]
def V29 (ds : List D) : D := let n := unI (ds.getD 0 .any); (Env.D (envM n) : D)
theorem V29_eq (n : Int) : V29 [.int .i64 n] = Env.D (envM n) := by
  have e0 : unI (.int .i64 n) = n := rfl
  show (fun (n : Int) => (Env.D (envM n) : D)) (unI (.int .i64 n)) = _
  rw [e0]
/-- linchpin/linchpinmade.BentLock -/
def P93 (ds : List D) : Prop := ∃ (l : Lck) (pa : Int) (pw : Int) (pb : Int), ds = [Lck.D l, .int .i64 pa, .int .i64 pw, .int .i64 pb] ∧ (l.sm)
def V93 (ds : List D) : D := let l := unLck (ds.getD 0 .any); let pa := unI (ds.getD 1 .any); let pw := unI (ds.getD 2 .any); let pb := unI (ds.getD 3 .any); (Lck.D (bentM l pa pw pb) : D)
theorem V93_eq (l : Lck) (pa : Int) (pw : Int) (pb : Int) : V93 [Lck.D l, .int .i64 pa, .int .i64 pw, .int .i64 pb] = Lck.D (bentM l pa pw pb) := by
  have e0 : unLck (Lck.D l) = l := unLck_D l
  have e1 : unI (.int .i64 pa) = pa := rfl
  have e2 : unI (.int .i64 pw) = pw := rfl
  have e3 : unI (.int .i64 pb) = pb := rfl
  show (fun (l : Lck) (pa : Int) (pw : Int) (pb : Int) => (Lck.D (bentM l pa pw pb) : D)) (unLck (Lck.D l)) (unI (.int .i64 pa)) (unI (.int .i64 pw)) (unI (.int .i64 pb)) = _
  rw [e0, e1, e2, e3]
/-- linchpin/lock.Keeps -/
def P101 (ds : List D) : Prop := ∃ (l : Lck), ds = [Lck.D l] ∧ (l.sm)
def V101 (ds : List D) : D := let l := unLck (ds.getD 0 .any); (.sl 6 ((keepsL l.lines).map Kp.D) : D)
theorem V101_eq (l : Lck) : V101 [Lck.D l] = .sl 6 ((keepsL l.lines).map Kp.D) := by
  have e0 : unLck (Lck.D l) = l := unLck_D l
  show (fun (l : Lck) => (.sl 6 ((keepsL l.lines).map Kp.D) : D)) (unLck (Lck.D l)) = _
  rw [e0]
/-- (*linchpin/linchpinmade.G).Next -/
def P109 (d : D) (ds : List D) : Prop := ∃ (g : Gs) (n : Int), d = Gs.D g ∧ ds = [.int .i64 n] ∧ (n ≤ 9223372036854775807) ∧ (0 ≤ g.i ∧ g.i ≤ 1000000)
def V109 (d : D) (ds : List D) : D := let g := unGs d; let n := unI (ds.getD 0 .any); (.int .i64 (g.val n) : D)
theorem V109_eq (g : Gs) (n : Int) : V109 (Gs.D g) [.int .i64 n] = .int .i64 (g.val n) := by
  have e : unGs (Gs.D g) = g := unGs_D g
  show (fun (g : Gs) (n : Int) => (.int .i64 (g.val n) : D)) (unGs (Gs.D g)) (unI (.int .i64 n)) = _
  rw [e]; rfl
def S109 (d : D) (ds : List D) : D := let g := unGs d; let n := unI (ds.getD 0 .any); (Gs.D g.nxt : D)
theorem S109_eq (g : Gs) (n : Int) : S109 (Gs.D g) [.int .i64 n] = Gs.D g.nxt := by
  have e : unGs (Gs.D g) = g := unGs_D g
  show (fun (g : Gs) (n : Int) => (Gs.D g.nxt : D)) (unGs (Gs.D g)) (unI (.int .i64 n)) = _
  rw [e]
/-- linchpin/linchpinmade.Names -/
def P111 (ds : List D) : Prop := ds = []
def V111 (ds : List D) : D := (.sl 1 (namesM.map D.str) : D)
theorem V111_eq  : V111 [] = .sl 1 (namesM.map D.str) := by
  rfl
/-- linchpin/linchpinmade.Versions -/
def P112 (ds : List D) : Prop := ds = []
def V112 (ds : List D) : D := (.sl 5 (versM.map Ver.D) : D)
theorem V112_eq  : V112 [] = .sl 5 (versM.map Ver.D) := by
  rfl
/-- linchpin/linchpinref33.Same -/
def P117 (ds : List D) : Prop := ∃ (a : Lck) (b : Lck), ds = [Lck.D a, Lck.D b]
def V117 (ds : List D) : D := let a := unLck (ds.getD 0 .any); let b := unLck (ds.getD 1 .any); (.bool (decide (a = b)) : D)
theorem V117_eq (a : Lck) (b : Lck) : V117 [Lck.D a, Lck.D b] = .bool (decide (a = b)) := by
  have e0 : unLck (Lck.D a) = a := unLck_D a
  have e1 : unLck (Lck.D b) = b := unLck_D b
  show (fun (a : Lck) (b : Lck) => (.bool (decide (a = b)) : D)) (unLck (Lck.D a)) (unLck (Lck.D b)) = _
  rw [e0, e1]
/-- linchpin/linchpinlaw33.awake -/
def P119 (ds : List D) : Prop := ds = []
def V119 (ds : List D) : D := (.bool true : D)
theorem V119_eq  : V119 [] = .bool true := by
  rfl
/-- strings.Split -/
def P124 (ds : List D) : Prop := ∃ (s : Str) (b : UInt8), ds = [.str s, .str [b]] ∧ (s.length ≤ 1048576)
def V124 (ds : List D) : D := let s := unS (ds.getD 0 .any); let b := unSep (ds.getD 1 .any); (.sl 1 ((splitL s b.toNat).map D.str) : D)
theorem V124_eq (s : Str) (b : UInt8) : V124 [.str s, .str [b]] = .sl 1 ((splitL s b.toNat).map D.str) := by
  have e0 : unS (.str s) = s := rfl
  have e1 : unSep (.str [b]) = b := rfl
  show (fun (s : Str) (b : UInt8) => (.sl 1 ((splitL s b.toNat).map D.str) : D)) (unS (.str s)) (unSep (.str [b])) = _
  rw [e0, e1]
/-- linchpin/mark.EnvMay -/
def P138 (ds : List D) : Prop := ∃ (e : Env), ds = [Env.D e]
def V138 (ds : List D) : D := let e := unEnv (ds.getD 0 .any); (.bool (envB e) : D)
theorem V138_eq (e : Env) : V138 [Env.D e] = .bool (envB e) := by
  have e0 : unEnv (Env.D e) = e := rfl
  show (fun (e : Env) => (.bool (envB e) : D)) (unEnv (Env.D e)) = _
  rw [e0]
/-- linchpin/linchpinref10.EnvMay -/
def P144 (ds : List D) : Prop := ∃ (e : Env), ds = [Env.D e]
def V144 (ds : List D) : D := let e := unEnv (ds.getD 0 .any); (.bool (envB e) : D)
theorem V144_eq (e : Env) : V144 [Env.D e] = .bool (envB e) := by
  have e0 : unEnv (Env.D e) = e := rfl
  show (fun (e : Env) => (.bool (envB e) : D)) (unEnv (Env.D e)) = _
  rw [e0]
/-- linchpin/linchpinmade.At -/
def P159 (ds : List D) : Prop := ∃ (l : List Int) (i : Int), ds = [.sl 1 (l.map (D.int .i64)), .int .i64 i]
def V159 (ds : List D) : D := let l := (unL unI) (ds.getD 0 .any); let i := unI (ds.getD 1 .any); (.int .i64 (atI l i) : D)
theorem V159_eq (l : List Int) (i : Int) : V159 [.sl 1 (l.map (D.int .i64)), .int .i64 i] = .int .i64 (atI l i) := by
  have e0 : (unL unI) (.sl 1 (l.map (D.int .i64))) = l := unL_map (fun x => rfl) 1 l
  have e1 : unI (.int .i64 i) = i := rfl
  show (fun (l : List Int) (i : Int) => (.int .i64 (atI l i) : D)) ((unL unI) (.sl 1 (l.map (D.int .i64)))) (unI (.int .i64 i)) = _
  rw [e0, e1]
/-- linchpin/linchpinmade.Lock -/
def P160 (ds : List D) : Prop := ∃ (ks : List Int), ds = [.sl 1 (ks.map (D.int .i64))]
def V160 (ds : List D) : D := let ks := (unL unI) (ds.getD 0 .any); (Lck.D (lockM ks) : D)
theorem V160_eq (ks : List Int) : V160 [.sl 1 (ks.map (D.int .i64))] = Lck.D (lockM ks) := by
  have e0 : (unL unI) (.sl 1 (ks.map (D.int .i64))) = ks := unL_map (fun x => rfl) 1 ks
  show (fun (ks : List Int) => (Lck.D (lockM ks) : D)) ((unL unI) (.sl 1 (ks.map (D.int .i64)))) = _
  rw [e0]
/-- linchpin/linchpinref33.May -/
def P189 (ds : List D) : Prop := ∃ (l : Lck), ds = [Lck.D l] ∧ (l.sm)
def V189 (ds : List D) : D := let l := unLck (ds.getD 0 .any); (.bool (lckB l) : D)
theorem V189_eq (l : Lck) : V189 [Lck.D l] = .bool (lckB l) := by
  have e0 : unLck (Lck.D l) = l := unLck_D l
  show (fun (l : Lck) => (.bool (lckB l) : D)) (unLck (Lck.D l)) = _
  rw [e0]
/-- linchpin/linchpinref33.Find -/
def P190 (ds : List D) : Prop := ∃ (l : Lck) (nm : Str), ds = [Lck.D l, .str nm]
def V190 (ds : List D) : D := let l := unLck (ds.getD 0 .any); let nm := unS (ds.getD 1 .any); (.int .i64 (findI l.lines nm 0) : D)
theorem V190_eq (l : Lck) (nm : Str) : V190 [Lck.D l, .str nm] = .int .i64 (findI l.lines nm 0) := by
  have e0 : unLck (Lck.D l) = l := unLck_D l
  have e1 : unS (.str nm) = nm := rfl
  show (fun (l : Lck) (nm : Str) => (.int .i64 (findI l.lines nm 0) : D)) (unLck (Lck.D l)) (unS (.str nm)) = _
  rw [e0, e1]
/-- linchpin/ident.Name -/
def P208 (ds : List D) : Prop := ∃ (s : Str), ds = [.str s]
def V208 (ds : List D) : D := let s := unS (ds.getD 0 .any); (.bool (nameB s) : D)
theorem V208_eq (s : Str) : V208 [.str s] = .bool (nameB s) := by
  have e0 : unS (.str s) = s := rfl
  show (fun (s : Str) => (.bool (nameB s) : D)) (unS (.str s)) = _
  rw [e0]
/-- linchpin/version.May -/
def P209 (ds : List D) : Prop := ∃ (v : Ver), ds = [Ver.D v] ∧ (v.sm)
def V209 (ds : List D) : D := let v := unVer (ds.getD 0 .any); (.bool (verB v) : D)
theorem V209_eq (v : Ver) : V209 [Ver.D v] = .bool (verB v) := by
  have e0 : unVer (Ver.D v) = v := rfl
  show (fun (v : Ver) => (.bool (verB v) : D)) (unVer (Ver.D v)) = _
  rw [e0]
/-- linchpin/linchpinref1.Name -/
def P216 (ds : List D) : Prop := ∃ (s : Str), ds = [.str s]
def V216 (ds : List D) : D := let s := unS (ds.getD 0 .any); (.bool (nameB s) : D)
theorem V216_eq (s : Str) : V216 [.str s] = .bool (nameB s) := by
  have e0 : unS (.str s) = s := rfl
  show (fun (s : Str) => (.bool (nameB s) : D)) (unS (.str s)) = _
  rw [e0]
/-- linchpin/linchpinref2.May -/
def P217 (ds : List D) : Prop := ∃ (v : Ver), ds = [Ver.D v] ∧ (v.sm)
def V217 (ds : List D) : D := let v := unVer (ds.getD 0 .any); (.bool (verB v) : D)
theorem V217_eq (v : Ver) : V217 [Ver.D v] = .bool (verB v) := by
  have e0 : unVer (Ver.D v) = v := rfl
  show (fun (v : Ver) => (.bool (verB v) : D)) (unVer (Ver.D v)) = _
  rw [e0]
/-- linchpin/digest.Sum -/
def P220 (ds : List D) : Prop := ∃ (s : Str), ds = [.sl 1 ((s).map fun b => D.int .u8 b.toNat)]
def V220 (ds : List D) : D := let s := unBytes (ds.getD 0 .any); (.int .u64 (sumL s) : D)
theorem V220_eq (s : Str) : V220 [.sl 1 ((s).map fun b => D.int .u8 b.toNat)] = .int .u64 (sumL s) := by
  have e0 : unBytes (.sl 1 ((s).map fun b => D.int .u8 b.toNat)) = s := unBytes_D s
  show (fun (s : Str) => (.int .u64 (sumL s) : D)) (unBytes (.sl 1 ((s).map fun b => D.int .u8 b.toNat))) = _
  rw [e0]
/-- linchpin/linchpinref9.Sum -/
def P221 (ds : List D) : Prop := ∃ (s : Str), ds = [.sl 1 ((s).map fun b => D.int .u8 b.toNat)]
def V221 (ds : List D) : D := let s := unBytes (ds.getD 0 .any); (.int .u64 (sumL s) : D)
theorem V221_eq (s : Str) : V221 [.sl 1 ((s).map fun b => D.int .u8 b.toNat)] = .int .u64 (sumL s) := by
  have e0 : unBytes (.sl 1 ((s).map fun b => D.int .u8 b.toNat)) = s := unBytes_D s
  show (fun (s : Str) => (.int .u64 (sumL s) : D)) (unBytes (.sl 1 ((s).map fun b => D.int .u8 b.toNat))) = _
  rw [e0]
/-- strings.Join -/
def P242 (ds : List D) : Prop := ∃ (l : List Str) (sep : Str), ds = [.sl 1 (l.map D.str), .str sep] ∧ (l.length ≤ 1048600) ∧ (sep.length ≤ 4) ∧ (∀ t ∈ l, t.length ≤ 2097200)
def V242 (ds : List D) : D := let l := (unL unS) (ds.getD 0 .any); let sep := unS (ds.getD 1 .any); (.str (joinS sep l) : D)
theorem V242_eq (l : List Str) (sep : Str) : V242 [.sl 1 (l.map D.str), .str sep] = .str (joinS sep l) := by
  have e0 : (unL unS) (.sl 1 (l.map D.str)) = l := unL_map (fun x => rfl) 1 l
  have e1 : unS (.str sep) = sep := rfl
  show (fun (l : List Str) (sep : Str) => (.str (joinS sep l) : D)) ((unL unS) (.sl 1 (l.map D.str))) (unS (.str sep)) = _
  rw [e0, e1]
/-- strings.CutPrefix -/
def P254 (ds : List D) : Prop := ∃ (s : Str) (p : Str), ds = [.str s, .str p] ∧ (s.length ≤ 1048576) ∧ (p.length ≤ 1048576)
def V254 (ds : List D) : D := let s := unS (ds.getD 0 .any); let p := unS (ds.getD 1 .any); (.tup [.str (cutPre s p).1, .bool (cutPre s p).2] : D)
theorem V254_eq (s : Str) (p : Str) : V254 [.str s, .str p] = .tup [.str (cutPre s p).1, .bool (cutPre s p).2] := by
  have e0 : unS (.str s) = s := rfl
  have e1 : unS (.str p) = p := rfl
  show (fun (s : Str) (p : Str) => (.tup [.str (cutPre s p).1, .bool (cutPre s p).2] : D)) (unS (.str s)) (unS (.str p)) = _
  rw [e0, e1]
/-- linchpin/lock.Find -/
def P294 (ds : List D) : Prop := ∃ (l : Lck) (nm : Str), ds = [Lck.D l, .str nm]
def V294 (ds : List D) : D := let l := unLck (ds.getD 0 .any); let nm := unS (ds.getD 1 .any); (.int .i64 (findI l.lines nm 0) : D)
theorem V294_eq (l : Lck) (nm : Str) : V294 [Lck.D l, .str nm] = .int .i64 (findI l.lines nm 0) := by
  have e0 : unLck (Lck.D l) = l := unLck_D l
  have e1 : unS (.str nm) = nm := rfl
  show (fun (l : Lck) (nm : Str) => (.int .i64 (findI l.lines nm 0) : D)) (unLck (Lck.D l)) (unS (.str nm)) = _
  rw [e0, e1]
/-- linchpin/lock.Parse -/
def P309 (ds : List D) : Prop := ∃ (s : Str), ds = [.str s] ∧ (s.length ≤ 1048576)
def V309 (ds : List D) : D := let s := unS (ds.getD 0 .any); (.tup [Lck.D (parseX s).1, .int .i64 (parseX s).2.1, .int .i64 (parseX s).2.2] : D)
theorem V309_eq (s : Str) : V309 [.str s] = .tup [Lck.D (parseX s).1, .int .i64 (parseX s).2.1, .int .i64 (parseX s).2.2] := by
  have e0 : unS (.str s) = s := rfl
  show (fun (s : Str) => (.tup [Lck.D (parseX s).1, .int .i64 (parseX s).2.1, .int .i64 (parseX s).2.2] : D)) (unS (.str s)) = _
  rw [e0]
/-- linchpin/linchpinref33.SameLines -/
def P310 (ds : List D) : Prop := ∃ (a : List Lkd) (b : List Lkd), ds = [.sl 9 (a.map Lkd.D), .sl 9 (b.map Lkd.D)]
def V310 (ds : List D) : D := let a := (unL unLkd) (ds.getD 0 .any); let b := (unL unLkd) (ds.getD 1 .any); (.bool (decide (a = b)) : D)
theorem V310_eq (a : List Lkd) (b : List Lkd) : V310 [.sl 9 (a.map Lkd.D), .sl 9 (b.map Lkd.D)] = .bool (decide (a = b)) := by
  have e0 : (unL unLkd) (.sl 9 (a.map Lkd.D)) = a := unL_map (fun x => unLkd_D x) 9 a
  have e1 : (unL unLkd) (.sl 9 (b.map Lkd.D)) = b := unL_map (fun x => unLkd_D x) 9 b
  show (fun (a : List Lkd) (b : List Lkd) => (.bool (decide (a = b)) : D)) ((unL unLkd) (.sl 9 (a.map Lkd.D))) ((unL unLkd) (.sl 9 (b.map Lkd.D))) = _
  rw [e0, e1]
/-- linchpin/linchpinref33.SameLine -/
def P311 (ds : List D) : Prop := ∃ (a : Lkd) (b : Lkd), ds = [Lkd.D a, Lkd.D b]
def V311 (ds : List D) : D := let a := unLkd (ds.getD 0 .any); let b := unLkd (ds.getD 1 .any); (.bool (decide (a = b)) : D)
theorem V311_eq (a : Lkd) (b : Lkd) : V311 [Lkd.D a, Lkd.D b] = .bool (decide (a = b)) := by
  have e0 : unLkd (Lkd.D a) = a := unLkd_D a
  have e1 : unLkd (Lkd.D b) = b := unLkd_D b
  show (fun (a : Lkd) (b : Lkd) => (.bool (decide (a = b)) : D)) (unLkd (Lkd.D a)) (unLkd (Lkd.D b)) = _
  rw [e0, e1]
/-- linchpin/lock.Print -/
def P312 (ds : List D) : Prop := ∃ (l : Lck), ds = [Lck.D l] ∧ (l.sm)
def V312 (ds : List D) : D := let l := unLck (ds.getD 0 .any); (.tup [.str (prS l), .int .i64 (prE l)] : D)
theorem V312_eq (l : Lck) : V312 [Lck.D l] = .tup [.str (prS l), .int .i64 (prE l)] := by
  have e0 : unLck (Lck.D l) = l := unLck_D l
  show (fun (l : Lck) => (.tup [.str (prS l), .int .i64 (prE l)] : D)) (unLck (Lck.D l)) = _
  rw [e0]
/-- linchpin/linchpinref9.Text -/
def P313 (ds : List D) : Prop := ∃ (n : Int), ds = [.int .u64 n]
def V313 (ds : List D) : D := let n := unI (ds.getD 0 .any); (.str (textL n) : D)
theorem V313_eq (n : Int) : V313 [.int .u64 n] = .str (textL n) := by
  have e0 : unI (.int .u64 n) = n := rfl
  show (fun (n : Int) => (.str (textL n) : D)) (unI (.int .u64 n)) = _
  rw [e0]
/-- linchpin/lock.Same -/
def P314 (ds : List D) : Prop := ∃ (a : Lck) (b : Lck), ds = [Lck.D a, Lck.D b]
def V314 (ds : List D) : D := let a := unLck (ds.getD 0 .any); let b := unLck (ds.getD 1 .any); (.bool (decide (a = b)) : D)
theorem V314_eq (a : Lck) (b : Lck) : V314 [Lck.D a, Lck.D b] = .bool (decide (a = b)) := by
  have e0 : unLck (Lck.D a) = a := unLck_D a
  have e1 : unLck (Lck.D b) = b := unLck_D b
  show (fun (a : Lck) (b : Lck) => (.bool (decide (a = b)) : D)) (unLck (Lck.D a)) (unLck (Lck.D b)) = _
  rw [e0, e1]
/-- linchpin/lock.May -/
def P315 (ds : List D) : Prop := ∃ (l : Lck), ds = [Lck.D l] ∧ (l.sm)
def V315 (ds : List D) : D := let l := unLck (ds.getD 0 .any); (.bool (lckB l) : D)
theorem V315_eq (l : Lck) : V315 [Lck.D l] = .bool (lckB l) := by
  have e0 : unLck (Lck.D l) = l := unLck_D l
  show (fun (l : Lck) => (.bool (lckB l) : D)) (unLck (Lck.D l)) = _
  rw [e0]
/-- linchpin/linchpinref2.Print -/
def P316 (ds : List D) : Prop := ∃ (v : Ver), ds = [Ver.D v] ∧ (v.sm)
def V316 (ds : List D) : D := let v := unVer (ds.getD 0 .any); (.str (verP v) : D)
theorem V316_eq (v : Ver) : V316 [Ver.D v] = .str (verP v) := by
  have e0 : unVer (Ver.D v) = v := rfl
  show (fun (v : Ver) => (.str (verP v) : D)) (unVer (Ver.D v)) = _
  rw [e0]
/-- strconv.Itoa -/
def P336 (ds : List D) : Prop := ∃ (n : Int), ds = [.int .i64 n] ∧ (0 ≤ n ∧ n ≤ 9999)
def V336 (ds : List D) : D := let n := unI (ds.getD 0 .any); (.str (decN n.toNat) : D)
theorem V336_eq (n : Int) : V336 [.int .i64 n] = .str (decN n.toNat) := by
  have e0 : unI (.int .i64 n) = n := rfl
  show (fun (n : Int) => (.str (decN n.toNat) : D)) (unI (.int .i64 n)) = _
  rw [e0]
/-- linchpin/ident.Word -/
def P349 (ds : List D) : Prop := ∃ (s : Str), ds = [.str s]
def V349 (ds : List D) : D := let s := unS (ds.getD 0 .any); (.bool (wordB s) : D)
theorem V349_eq (s : Str) : V349 [.str s] = .bool (wordB s) := by
  have e0 : unS (.str s) = s := rfl
  show (fun (s : Str) => (.bool (wordB s) : D)) (unS (.str s)) = _
  rw [e0]
/-- linchpin/linchpinref1.Word -/
def P357 (ds : List D) : Prop := ∃ (s : Str), ds = [.str s]
def V357 (ds : List D) : D := let s := unS (ds.getD 0 .any); (.bool (wordB s) : D)
theorem V357_eq (s : Str) : V357 [.str s] = .bool (wordB s) := by
  have e0 : unS (.str s) = s := rfl
  show (fun (s : Str) => (.bool (wordB s) : D)) (unS (.str s)) = _
  rw [e0]
/-- linchpin/linchpinref33.lineMay -/
def P418 (ds : List D) : Prop := ∃ (x : Lkd), ds = [Lkd.D x] ∧ (x.sm)
def V418 (ds : List D) : D := let x := unLkd (ds.getD 0 .any); (.bool (lkdB x) : D)
theorem V418_eq (x : Lkd) : V418 [Lkd.D x] = .bool (lkdB x) := by
  have e0 : unLkd (Lkd.D x) = x := unLkd_D x
  show (fun (x : Lkd) => (.bool (lkdB x) : D)) (unLkd (Lkd.D x)) = _
  rw [e0]
/-- linchpin/version.fits -/
def P440 (ds : List D) : Prop := ∃ (n : Int), ds = [.int .i64 n]
def V440 (ds : List D) : D := let n := unI (ds.getD 0 .any); (.bool (fitB n) : D)
theorem V440_eq (n : Int) : V440 [.int .i64 n] = .bool (fitB n) := by
  have e0 : unI (.int .i64 n) = n := rfl
  show (fun (n : Int) => (.bool (fitB n) : D)) (unI (.int .i64 n)) = _
  rw [e0]
/-- linchpin/version.pre -/
def P441 (ds : List D) : Prop := ∃ (s : Str), ds = [.str s] ∧ (s.length ≤ 1048576)
def V441 (ds : List D) : D := let s := unS (ds.getD 0 .any); (.bool (tagsP s true) : D)
theorem V441_eq (s : Str) : V441 [.str s] = .bool (tagsP s true) := by
  have e0 : unS (.str s) = s := rfl
  show (fun (s : Str) => (.bool (tagsP s true) : D)) (unS (.str s)) = _
  rw [e0]
/-- linchpin/version.tags -/
def P442 (ds : List D) : Prop := ∃ (s : Str), ds = [.str s] ∧ (s.length ≤ 1048576)
def V442 (ds : List D) : D := let s := unS (ds.getD 0 .any); (.bool (tagsP s false) : D)
theorem V442_eq (s : Str) : V442 [.str s] = .bool (tagsP s false) := by
  have e0 : unS (.str s) = s := rfl
  show (fun (s : Str) => (.bool (tagsP s false) : D)) (unS (.str s)) = _
  rw [e0]
/-- linchpin/version.Print -/
def P451 (ds : List D) : Prop := ∃ (v : Ver), ds = [Ver.D v] ∧ (v.sm)
def V451 (ds : List D) : D := let v := unVer (ds.getD 0 .any); (.str (verP v) : D)
theorem V451_eq (v : Ver) : V451 [Ver.D v] = .str (verP v) := by
  have e0 : unVer (Ver.D v) = v := rfl
  show (fun (v : Ver) => (.str (verP v) : D)) (unVer (Ver.D v)) = _
  rw [e0]
/-- linchpin/linchpinref1.low -/
def P453 (ds : List D) : Prop := ∃ (c : Int), ds = [.int .u8 c]
def V453 (ds : List D) : D := let c := unI (ds.getD 0 .any); (.bool (lowB c) : D)
theorem V453_eq (c : Int) : V453 [.int .u8 c] = .bool (lowB c) := by
  have e0 : unI (.int .u8 c) = c := rfl
  show (fun (c : Int) => (.bool (lowB c) : D)) (unI (.int .u8 c)) = _
  rw [e0]
/-- linchpin/linchpinref1.digit -/
def P454 (ds : List D) : Prop := ∃ (c : Int), ds = [.int .u8 c]
def V454 (ds : List D) : D := let c := unI (ds.getD 0 .any); (.bool (digitB c) : D)
theorem V454_eq (c : Int) : V454 [.int .u8 c] = .bool (digitB c) := by
  have e0 : unI (.int .u8 c) = c := rfl
  show (fun (c : Int) => (.bool (digitB c) : D)) (unI (.int .u8 c)) = _
  rw [e0]
/-- linchpin/linchpinref2.num -/
def P455 (ds : List D) : Prop := ∃ (n : Int), ds = [.int .i64 n]
def V455 (ds : List D) : D := let n := unI (ds.getD 0 .any); (.bool (fitB n) : D)
theorem V455_eq (n : Int) : V455 [.int .i64 n] = .bool (fitB n) := by
  have e0 : unI (.int .i64 n) = n := rfl
  show (fun (n : Int) => (.bool (fitB n) : D)) (unI (.int .i64 n)) = _
  rw [e0]
/-- linchpin/linchpinref2.tags -/
def P456 (ds : List D) : Prop := ∃ (s : Str) (p : Bool), ds = [.str s, .bool p] ∧ (s.length ≤ 1048576)
def V456 (ds : List D) : D := let s := unS (ds.getD 0 .any); let p := unB (ds.getD 1 .any); (.bool (tagsB s p) : D)
theorem V456_eq (s : Str) (p : Bool) : V456 [.str s, .bool p] = .bool (tagsB s p) := by
  have e0 : unS (.str s) = s := rfl
  have e1 : unB (.bool p) = p := rfl
  show (fun (s : Str) (p : Bool) => (.bool (tagsB s p) : D)) (unS (.str s)) (unB (.bool p)) = _
  rw [e0, e1]
/-- math/bits.RotateLeft64 -/
def P463 (ds : List D) : Prop := ∃ (h : Int) (k : Nat), ds = [.int .u64 h, .int .i64 (k : Nat)] ∧ (k = 13)
def V463 (ds : List D) : D := let h := unI (ds.getD 0 .any); let k := (unI (ds.getD 1 .any)).toNat; (.int .u64 (rot h k) : D)
theorem V463_eq (h : Int) (k : Nat) : V463 [.int .u64 h, .int .i64 (k : Nat)] = .int .u64 (rot h k) := by
  have e0 : unI (.int .u64 h) = h := rfl
  have e1 : (unI (.int .i64 (k : Nat))).toNat = k := Int.toNat_natCast k
  show (fun (h : Int) (k : Nat) => (.int .u64 (rot h k) : D)) (unI (.int .u64 h)) ((unI (.int .i64 (k : Nat))).toNat) = _
  rw [e0, e1]
/-- linchpin/linchpinref9.turn -/
def P464 (ds : List D) : Prop := ∃ (h : Int) (n : Nat), ds = [.int .u64 h, .int .u64 (n : Nat)] ∧ (n ≤ 63)
def V464 (ds : List D) : D := let h := unI (ds.getD 0 .any); let n := (unI (ds.getD 1 .any)).toNat; (.int .u64 (rot h n) : D)
theorem V464_eq (h : Int) (n : Nat) : V464 [.int .u64 h, .int .u64 (n : Nat)] = .int .u64 (rot h n) := by
  have e0 : unI (.int .u64 h) = h := rfl
  have e1 : (unI (.int .u64 (n : Nat))).toNat = n := Int.toNat_natCast n
  show (fun (h : Int) (n : Nat) => (.int .u64 (rot h n) : D)) (unI (.int .u64 h)) ((unI (.int .u64 (n : Nat))).toNat) = _
  rw [e0, e1]
/-- linchpin/version.Parse -/
def P466 (ds : List D) : Prop := ∃ (s : Str), ds = [.str s] ∧ (s.length ≤ 1048576)
def V466 (ds : List D) : D := let s := unS (ds.getD 0 .any); (.tup [Ver.D ((verQ s).getD verZ), .int .i64 (verE s)] : D)
theorem V466_eq (s : Str) : V466 [.str s] = .tup [Ver.D ((verQ s).getD verZ), .int .i64 (verE s)] := by
  have e0 : unS (.str s) = s := rfl
  show (fun (s : Str) => (.tup [Ver.D ((verQ s).getD verZ), .int .i64 (verE s)] : D)) (unS (.str s)) = _
  rw [e0]
/-- linchpin/linchpinref1.Split -/
def P470 (ds : List D) : Prop := ∃ (s : Str) (b : Int), ds = [.str s, .int .u8 b] ∧ (s.length ≤ 1048576)
def V470 (ds : List D) : D := let s := unS (ds.getD 0 .any); let b := unI (ds.getD 1 .any); (.sl 1 ((splitL s b).map D.str) : D)
theorem V470_eq (s : Str) (b : Int) : V470 [.str s, .int .u8 b] = .sl 1 ((splitL s b).map D.str) := by
  have e0 : unS (.str s) = s := rfl
  have e1 : unI (.int .u8 b) = b := rfl
  show (fun (s : Str) (b : Int) => (.sl 1 ((splitL s b).map D.str) : D)) (unS (.str s)) (unI (.int .u8 b)) = _
  rw [e0, e1]
/-- slices.Equal[[]string,string] -/
def P486 (ds : List D) : Prop := ∃ (a : List Str) (b : List Str), ds = [.sl 1 (a.map D.str), .sl 1 (b.map D.str)]
def V486 (ds : List D) : D := let a := (unL unS) (ds.getD 0 .any); let b := (unL unS) (ds.getD 1 .any); (.bool (decide (a = b)) : D)
theorem V486_eq (a : List Str) (b : List Str) : V486 [.sl 1 (a.map D.str), .sl 1 (b.map D.str)] = .bool (decide (a = b)) := by
  have e0 : (unL unS) (.sl 1 (a.map D.str)) = a := unL_map (fun x => rfl) 1 a
  have e1 : (unL unS) (.sl 1 (b.map D.str)) = b := unL_map (fun x => rfl) 1 b
  show (fun (a : List Str) (b : List Str) => (.bool (decide (a = b)) : D)) ((unL unS) (.sl 1 (a.map D.str))) ((unL unS) (.sl 1 (b.map D.str))) = _
  rw [e0, e1]
/-- strings.Cut -/
def P487 (ds : List D) : Prop := ∃ (s : Str) (b : UInt8), ds = [.str s, .str [b]] ∧ (s.length ≤ 1048576)
def V487 (ds : List D) : D := let s := unS (ds.getD 0 .any); let b := unSep (ds.getD 1 .any); (.tup [.str (cutL s b).1, .str (cutL s b).2.1, .bool (cutL s b).2.2] : D)
theorem V487_eq (s : Str) (b : UInt8) : V487 [.str s, .str [b]] = .tup [.str (cutL s b).1, .str (cutL s b).2.1, .bool (cutL s b).2.2] := by
  have e0 : unS (.str s) = s := rfl
  have e1 : unSep (.str [b]) = b := rfl
  show (fun (s : Str) (b : UInt8) => (.tup [.str (cutL s b).1, .str (cutL s b).2.1, .bool (cutL s b).2.2] : D)) (unS (.str s)) (unSep (.str [b])) = _
  rw [e0, e1]
/-- strings.Contains -/
def P491 (ds : List D) : Prop := ∃ (s : Str) (b : UInt8), ds = [.str s, .str [b]] ∧ (s.length ≤ 1048576)
def V491 (ds : List D) : D := let s := unS (ds.getD 0 .any); let b := unSep (ds.getD 1 .any); (.bool (s.contains b) : D)
theorem V491_eq (s : Str) (b : UInt8) : V491 [.str s, .str [b]] = .bool (s.contains b) := by
  have e0 : unS (.str s) = s := rfl
  have e1 : unSep (.str [b]) = b := rfl
  show (fun (s : Str) (b : UInt8) => (.bool (s.contains b) : D)) (unS (.str s)) (unSep (.str [b])) = _
  rw [e0, e1]
/-- linchpin/digest.Text -/
def P497 (ds : List D) : Prop := ∃ (n : Int), ds = [.int .u64 n]
def V497 (ds : List D) : D := let n := unI (ds.getD 0 .any); (.str (textL n) : D)
theorem V497_eq (n : Int) : V497 [.int .u64 n] = .str (textL n) := by
  have e0 : unI (.int .u64 n) = n := rfl
  show (fun (n : Int) => (.str (textL n) : D)) (unI (.int .u64 n)) = _
  rw [e0]
/-- linchpin/digest.Read -/
def P499 (ds : List D) : Prop := ∃ (s : Str), ds = [.str s]
def V499 (ds : List D) : D := let s := unS (ds.getD 0 .any); (.tup [.int .u64 (readO s), .bool (readB s)] : D)
theorem V499_eq (s : Str) : V499 [.str s] = .tup [.int .u64 (readO s), .bool (readB s)] := by
  have e0 : unS (.str s) = s := rfl
  show (fun (s : Str) => (.tup [.int .u64 (readO s), .bool (readB s)] : D)) (unS (.str s)) = _
  rw [e0]
/-- slices.IndexFunc[[]linchpin/api.Locked,linchpin/api.Locked] -/
def P528 (ds : List D) : Prop := ∃ (l : List Lkd) (nm : Str), ds = [.sl 9 (l.map Lkd.D), .fn 529 [.ref 1 [.str nm] 0 0]]
def V528 (ds : List D) : D := let l := (unL unLkd) (ds.getD 0 .any); let nm := unFn (ds.getD 1 .any); (.int .i64 (findI l nm 0) : D)
theorem V528_eq (l : List Lkd) (nm : Str) : V528 [.sl 9 (l.map Lkd.D), .fn 529 [.ref 1 [.str nm] 0 0]] = .int .i64 (findI l nm 0) := by
  have e0 : (unL unLkd) (.sl 9 (l.map Lkd.D)) = l := unL_map (fun x => unLkd_D x) 9 l
  have e1 : unFn (.fn 529 [.ref 1 [.str nm] 0 0]) = nm := rfl
  show (fun (l : List Lkd) (nm : Str) => (.int .i64 (findI l nm 0) : D)) ((unL unLkd) (.sl 9 (l.map Lkd.D))) (unFn (.fn 529 [.ref 1 [.str nm] 0 0])) = _
  rw [e0, e1]
/-- linchpin/lock.Find$1 -/
def P529 (ds : List D) : Prop := ∃ (x : Lkd) (nm : Str), ds = [Lkd.D x, .ref 1 [.str nm] 0 0]
def V529 (ds : List D) : D := let x := unLkd (ds.getD 0 .any); let nm := unRf (ds.getD 1 .any); (.bool (decide (x.name = nm)) : D)
theorem V529_eq (x : Lkd) (nm : Str) : V529 [Lkd.D x, .ref 1 [.str nm] 0 0] = .bool (decide (x.name = nm)) := by
  have e0 : unLkd (Lkd.D x) = x := unLkd_D x
  have e1 : unRf (.ref 1 [.str nm] 0 0) = nm := rfl
  show (fun (x : Lkd) (nm : Str) => (.bool (decide (x.name = nm)) : D)) (unLkd (Lkd.D x)) (unRf (.ref 1 [.str nm] 0 0)) = _
  rw [e0, e1]
/-- linchpin/ident.Split -/
def P533 (ds : List D) : Prop := ∃ (s : Str) (b : Int), ds = [.str s, .int .u8 b] ∧ (s.length ≤ 1048576)
def V533 (ds : List D) : D := let s := unS (ds.getD 0 .any); let b := unI (ds.getD 1 .any); (.sl 1 ((splitL s b).map D.str) : D)
theorem V533_eq (s : Str) (b : Int) : V533 [.str s, .int .u8 b] = .sl 1 ((splitL s b).map D.str) := by
  have e0 : unS (.str s) = s := rfl
  have e1 : unI (.int .u8 b) = b := rfl
  show (fun (s : Str) (b : Int) => (.sl 1 ((splitL s b).map D.str) : D)) (unS (.str s)) (unI (.int .u8 b)) = _
  rw [e0, e1]
/-- (*linchpin/lock.reader).next -/
def P545 (d : D) (ds : List D) : Prop := ∃ (r : Rdr), d = Rdr.D r ∧ ds = [] ∧ (r.at' ≤ r.s.length) ∧ (r.s.length ≤ 1048576) ∧ (r.n ≤ 2097152)
def V545 (d : D) (ds : List D) : D := let r := unRdr d; (.tup [.str r.ln.1, .bool r.ln.2.2] : D)
theorem V545_eq (r : Rdr)  : V545 (Rdr.D r) [] = .tup [.str r.ln.1, .bool r.ln.2.2] := by
  have e : unRdr (Rdr.D r) = r := unRdr_D r
  show (fun (r : Rdr) => (.tup [.str r.ln.1, .bool r.ln.2.2] : D)) (unRdr (Rdr.D r)) = _
  rw [e]
def S545 (d : D) (ds : List D) : D := let r := unRdr d; (Rdr.D r.nxt : D)
theorem S545_eq (r : Rdr)  : S545 (Rdr.D r) [] = Rdr.D r.nxt := by
  have e : unRdr (Rdr.D r) = r := unRdr_D r
  show (fun (r : Rdr) => (Rdr.D r.nxt : D)) (unRdr (Rdr.D r)) = _
  rw [e]
/-- linchpin/lock.platform -/
def P546 (ds : List D) : Prop := ∃ (s : Str), ds = [.str s] ∧ (s.length ≤ 8192)
def V546 (ds : List D) : D := let s := unS (ds.getD 0 .any); (.tup [Env.D (envR s), .bool (envOK s)] : D)
theorem V546_eq (s : Str) : V546 [.str s] = .tup [Env.D (envR s), .bool (envOK s)] := by
  have e0 : unS (.str s) = s := rfl
  show (fun (s : Str) => (.tup [Env.D (envR s), .bool (envOK s)] : D)) (unS (.str s)) = _
  rw [e0]
/-- linchpin/lock.locked -/
def P547 (ds : List D) : Prop := ∃ (t : Str), ds = [.str t] ∧ (t.length ≤ 8192)
def V547 (ds : List D) : D := let t := unS (ds.getD 0 .any); (.tup [Lkd.D (lkdR t), .bool (lkdOK t)] : D)
theorem V547_eq (t : Str) : V547 [.str t] = .tup [Lkd.D (lkdR t), .bool (lkdOK t)] := by
  have e0 : unS (.str t) = t := rfl
  show (fun (t : Str) => (.tup [Lkd.D (lkdR t), .bool (lkdOK t)] : D)) (unS (.str t)) = _
  rw [e0]
/-- linchpin/lock.dash -/
def P548 (ds : List D) : Prop := ∃ (s : Str), ds = [.str s]
def V548 (ds : List D) : D := let s := unS (ds.getD 0 .any); (.str (dashS s) : D)
theorem V548_eq (s : Str) : V548 [.str s] = .str (dashS s) := by
  have e0 : unS (.str s) = s := rfl
  show (fun (s : Str) => (.str (dashS s) : D)) (unS (.str s)) = _
  rw [e0]
/-- (linchpin/lock.line).text -/
def P549 (ds : List D) : Prop := ∃ (x : Lkd), ds = [Lkd.D x] ∧ (x.sm)
def V549 (ds : List D) : D := let x := unLkd (ds.getD 0 .any); (.str (lkdS x) : D)
theorem V549_eq (x : Lkd) : V549 [Lkd.D x] = .str (lkdS x) := by
  have e0 : unLkd (Lkd.D x) = x := unLkd_D x
  show (fun (x : Lkd) => (.str (lkdS x) : D)) (unLkd (Lkd.D x)) = _
  rw [e0]
/-- slices.EqualFunc[[]linchpin/api.Locked,[]linchpin/api.Locked,linchpin/api.Locked,linchpin/api.Locked] -/
def P550 (ds : List D) : Prop := ∃ (a : List Lkd) (b : List Lkd), ds = [.sl 9 (a.map Lkd.D), .sl 9 (b.map Lkd.D), .fn 551 []]
def V550 (ds : List D) : D := let a := (unL unLkd) (ds.getD 0 .any); let b := (unL unLkd) (ds.getD 1 .any); (.bool (decide (a = b)) : D)
theorem V550_eq (a : List Lkd) (b : List Lkd) : V550 [.sl 9 (a.map Lkd.D), .sl 9 (b.map Lkd.D), .fn 551 []] = .bool (decide (a = b)) := by
  have e0 : (unL unLkd) (.sl 9 (a.map Lkd.D)) = a := unL_map (fun x => unLkd_D x) 9 a
  have e1 : (unL unLkd) (.sl 9 (b.map Lkd.D)) = b := unL_map (fun x => unLkd_D x) 9 b
  show (fun (a : List Lkd) (b : List Lkd) => (.bool (decide (a = b)) : D)) ((unL unLkd) (.sl 9 (a.map Lkd.D))) ((unL unLkd) (.sl 9 (b.map Lkd.D))) = _
  rw [e0, e1]
/-- linchpin/lock.Same$1 -/
def P551 (ds : List D) : Prop := ∃ (a : Lkd) (b : Lkd), ds = [Lkd.D a, Lkd.D b]
def V551 (ds : List D) : D := let a := unLkd (ds.getD 0 .any); let b := unLkd (ds.getD 1 .any); (.bool (decide (a = b)) : D)
theorem V551_eq (a : Lkd) (b : Lkd) : V551 [Lkd.D a, Lkd.D b] = .bool (decide (a = b)) := by
  have e0 : unLkd (Lkd.D a) = a := unLkd_D a
  have e1 : unLkd (Lkd.D b) = b := unLkd_D b
  show (fun (a : Lkd) (b : Lkd) => (.bool (decide (a = b)) : D)) (unLkd (Lkd.D a)) (unLkd (Lkd.D b)) = _
  rw [e0, e1]
/-- (linchpin/lock.line).same -/
def P552 (ds : List D) : Prop := ∃ (a : Lkd) (b : Lkd), ds = [Lkd.D a, Lkd.D b]
def V552 (ds : List D) : D := let a := unLkd (ds.getD 0 .any); let b := unLkd (ds.getD 1 .any); (.bool (decide (a = b)) : D)
theorem V552_eq (a : Lkd) (b : Lkd) : V552 [Lkd.D a, Lkd.D b] = .bool (decide (a = b)) := by
  have e0 : unLkd (Lkd.D a) = a := unLkd_D a
  have e1 : unLkd (Lkd.D b) = b := unLkd_D b
  show (fun (a : Lkd) (b : Lkd) => (.bool (decide (a = b)) : D)) (unLkd (Lkd.D a)) (unLkd (Lkd.D b)) = _
  rw [e0, e1]
/-- (linchpin/lock.line).may -/
def P553 (ds : List D) : Prop := ∃ (x : Lkd), ds = [Lkd.D x] ∧ (x.sm)
def V553 (ds : List D) : D := let x := unLkd (ds.getD 0 .any); (.bool (lkdB x) : D)
theorem V553_eq (x : Lkd) : V553 [Lkd.D x] = .bool (lkdB x) := by
  have e0 : unLkd (Lkd.D x) = x := unLkd_D x
  show (fun (x : Lkd) => (.bool (lkdB x) : D)) (unLkd (Lkd.D x)) = _
  rw [e0]
/-- linchpin/linchpinref2.Numbers -/
def P554 (ds : List D) : Prop := ∃ (v : Ver), ds = [Ver.D v] ∧ (fitB v.major = true ∧ fitB v.minor = true ∧ fitB v.patch = true)
def V554 (ds : List D) : D := let v := unVer (ds.getD 0 .any); (.str (decN v.major.toNat ++ [46] ++ decN v.minor.toNat ++ [46] ++ decN v.patch.toNat) : D)
theorem V554_eq (v : Ver) : V554 [Ver.D v] = .str (decN v.major.toNat ++ [46] ++ decN v.minor.toNat ++ [46] ++ decN v.patch.toNat) := by
  have e0 : unVer (Ver.D v) = v := rfl
  show (fun (v : Ver) => (.str (decN v.major.toNat ++ [46] ++ decN v.minor.toNat ++ [46] ++ decN v.patch.toNat) : D)) (unVer (Ver.D v)) = _
  rw [e0]
/-- linchpin/linchpinref33.Print -/
def P571 (ds : List D) : Prop := ∃ (l : Lck), ds = [Lck.D l] ∧ (l.sm)
def V571 (ds : List D) : D := let l := unLck (ds.getD 0 .any); (.tup [.str (prS l), .int .i64 (prE l)] : D)
theorem V571_eq (l : Lck) : V571 [Lck.D l] = .tup [.str (prS l), .int .i64 (prE l)] := by
  have e0 : unLck (Lck.D l) = l := unLck_D l
  show (fun (l : Lck) => (.tup [.str (prS l), .int .i64 (prE l)] : D)) (unLck (Lck.D l)) = _
  rw [e0]
/-- linchpin/linchpinref33.Keeps -/
def P594 (ds : List D) : Prop := ∃ (l : Lck), ds = [Lck.D l] ∧ (l.sm)
def V594 (ds : List D) : D := let l := unLck (ds.getD 0 .any); (.sl 6 ((keepsL l.lines).map Kp.D) : D)
theorem V594_eq (l : Lck) : V594 [Lck.D l] = .sl 6 ((keepsL l.lines).map Kp.D) := by
  have e0 : unLck (Lck.D l) = l := unLck_D l
  show (fun (l : Lck) => (.sl 6 ((keepsL l.lines).map Kp.D) : D)) (unLck (Lck.D l)) = _
  rw [e0]
/-- linchpin/ident.Number -/
def P658 (ds : List D) : Prop := ∃ (s : Str), ds = [.str s]
def V658 (ds : List D) : D := let s := unS (ds.getD 0 .any); (.tup [.int .i64 (numO s), .bool (numB s)] : D)
theorem V658_eq (s : Str) : V658 [.str s] = .tup [.int .i64 (numO s), .bool (numB s)] := by
  have e0 : unS (.str s) = s := rfl
  show (fun (s : Str) => (.tup [.int .i64 (numO s), .bool (numB s)] : D)) (unS (.str s)) = _
  rw [e0]
/-- linchpin/version.numeric -/
def P659 (ds : List D) : Prop := ∃ (t : Str), ds = [.str t]
def V659 (ds : List D) : D := let t := unS (ds.getD 0 .any); (.bool (numericB t) : D)
theorem V659_eq (t : Str) : V659 [.str t] = .bool (numericB t) := by
  have e0 : unS (.str t) = t := rfl
  show (fun (t : Str) => (.bool (numericB t) : D)) (unS (.str t)) = _
  rw [e0]
/-- linchpin/ident.Digits -/
def P665 (ds : List D) : Prop := ∃ (n : Int), ds = [.int .i64 n] ∧ (0 ≤ n ∧ n ≤ 9999)
def V665 (ds : List D) : D := let n := unI (ds.getD 0 .any); (.str (decN n.toNat) : D)
theorem V665_eq (n : Int) : V665 [.int .i64 n] = .str (decN n.toNat) := by
  have e0 : unI (.int .i64 n) = n := rfl
  show (fun (n : Int) => (.str (decN n.toNat) : D)) (unI (.int .i64 n)) = _
  rw [e0]
/-- linchpin/linchpinref2.tag -/
def P666 (ds : List D) : Prop := ∃ (t : Str), ds = [.str t]
def V666 (ds : List D) : D := let t := unS (ds.getD 0 .any); (.bool (tagB t) : D)
theorem V666_eq (t : Str) : V666 [.str t] = .bool (tagB t) := by
  have e0 : unS (.str t) = t := rfl
  show (fun (t : Str) => (.bool (tagB t) : D)) (unS (.str t)) = _
  rw [e0]
/-- linchpin/linchpinref1.Number -/
def P667 (ds : List D) : Prop := ∃ (s : Str), ds = [.str s]
def V667 (ds : List D) : D := let s := unS (ds.getD 0 .any); (.tup [.int .i64 (numO s), .bool (numB s)] : D)
theorem V667_eq (s : Str) : V667 [.str s] = .tup [.int .i64 (numO s), .bool (numB s)] := by
  have e0 : unS (.str s) = s := rfl
  show (fun (s : Str) => (.tup [.int .i64 (numO s), .bool (numB s)] : D)) (unS (.str s)) = _
  rw [e0]
/-- linchpin/linchpinref2.Numeric -/
def P668 (ds : List D) : Prop := ∃ (t : Str), ds = [.str t]
def V668 (ds : List D) : D := let t := unS (ds.getD 0 .any); (.bool (numericB t) : D)
theorem V668_eq (t : Str) : V668 [.str t] = .bool (numericB t) := by
  have e0 : unS (.str t) = t := rfl
  show (fun (t : Str) => (.bool (numericB t) : D)) (unS (.str t)) = _
  rw [e0]
/-- linchpin/version.behind -/
def P675 (ds : List D) : Prop := ∃ (s : Str) (b : Int), ds = [.str s, .int .u8 b]
def V675 (ds : List D) : D := let s := unS (ds.getD 0 .any); let b := unI (ds.getD 1 .any); (.tup [.str (behindL s b).1, .str (behindL s b).2] : D)
theorem V675_eq (s : Str) (b : Int) : V675 [.str s, .int .u8 b] = .tup [.str (behindL s b).1, .str (behindL s b).2] := by
  have e0 : unS (.str s) = s := rfl
  have e1 : unI (.int .u8 b) = b := rfl
  show (fun (s : Str) (b : Int) => (.tup [.str (behindL s b).1, .str (behindL s b).2] : D)) (unS (.str s)) (unI (.int .u8 b)) = _
  rw [e0, e1]
/-- linchpin/digest.digit -/
def P686 (ds : List D) : Prop := ∃ (k : Nat), ds = [.int .u8 (k : Nat)] ∧ (k < 16)
def V686 (ds : List D) : D := let k := (unI (ds.getD 0 .any)).toNat; (.int .u8 ((hexD k).toNat : Nat) : D)
theorem V686_eq (k : Nat) : V686 [.int .u8 (k : Nat)] = .int .u8 ((hexD k).toNat : Nat) := by
  have e0 : (unI (.int .u8 (k : Nat))).toNat = k := Int.toNat_natCast k
  show (fun (k : Nat) => (.int .u8 ((hexD k).toNat : Nat) : D)) ((unI (.int .u8 (k : Nat))).toNat) = _
  rw [e0]
/-- linchpin/lock.plain -/
def P733 (ds : List D) : Prop := ∃ (s : Str), ds = [.str s]
def V733 (ds : List D) : D := let s := unS (ds.getD 0 .any); (.str (undashS s) : D)
theorem V733_eq (s : Str) : V733 [.str s] = .str (undashS s) := by
  have e0 : unS (.str s) = s := rfl
  show (fun (s : Str) => (.str (undashS s) : D)) (unS (.str s)) = _
  rw [e0]
/-- linchpin/linchpinref1.Digits -/
def P734 (ds : List D) : Prop := ∃ (n : Int), ds = [.int .i64 n] ∧ (0 ≤ n ∧ n ≤ 9999)
def V734 (ds : List D) : D := let n := unI (ds.getD 0 .any); (.str (decN n.toNat) : D)
theorem V734_eq (n : Int) : V734 [.int .i64 n] = .str (decN n.toNat) := by
  have e0 : unI (.int .i64 n) = n := rfl
  show (fun (n : Int) => (.str (decN n.toNat) : D)) (unI (.int .i64 n)) = _
  rw [e0]
/-- linchpin/linchpinref33.text -/
def P743 (ds : List D) : Prop := ∃ (l : Lck), ds = [Lck.D l] ∧ (l.sm)
def V743 (ds : List D) : D := let l := unLck (ds.getD 0 .any); (.str (lckS l) : D)
theorem V743_eq (l : Lck) : V743 [Lck.D l] = .str (lckS l) := by
  have e0 : unLck (Lck.D l) = l := unLck_D l
  show (fun (l : Lck) => (.str (lckS l) : D)) (unLck (Lck.D l)) = _
  rw [e0]
/-- linchpin/linchpinref1.whole -/
def P882 (ds : List D) : Prop := ∃ (n : Nat), ds = [.int .u64 (n : Nat)] ∧ (n ≤ 9999)
def V882 (ds : List D) : D := let n := (unI (ds.getD 0 .any)).toNat; (.str (decN n) : D)
theorem V882_eq (n : Nat) : V882 [.int .u64 (n : Nat)] = .str (decN n) := by
  have e0 : (unI (.int .u64 (n : Nat))).toNat = n := Int.toNat_natCast n
  show (fun (n : Nat) => (.str (decN n) : D)) ((unI (.int .u64 (n : Nat))).toNat) = _
  rw [e0]
/-- linchpin/linchpinref33.dash -/
def P894 (ds : List D) : Prop := ∃ (s : Str), ds = [.str s]
def V894 (ds : List D) : D := let s := unS (ds.getD 0 .any); (.str (dashS s) : D)
theorem V894_eq (s : Str) : V894 [.str s] = .str (dashS s) := by
  have e0 : unS (.str s) = s := rfl
  show (fun (s : Str) => (.str (dashS s) : D)) (unS (.str s)) = _
  rw [e0]
/-- linchpin/linchpinref33.line -/
def P895 (ds : List D) : Prop := ∃ (x : Lkd), ds = [Lkd.D x] ∧ (x.sm)
def V895 (ds : List D) : D := let x := unLkd (ds.getD 0 .any); (.str (lkdS x) : D)
theorem V895_eq (x : Lkd) : V895 [Lkd.D x] = .str (lkdS x) := by
  have e0 : unLkd (Lkd.D x) = x := unLkd_D x
  show (fun (x : Lkd) => (.str (lkdS x) : D)) (unLkd (Lkd.D x)) = _
  rw [e0]
/-- linchpin/linchpinlaw33.few -/
def P1184 (ds : List D) : Prop := ∃ (l : Lck), ds = [Lck.D l]
def V1184 (ds : List D) : D := let l := unLck (ds.getD 0 .any); (.bool (fewB l) : D)
theorem V1184_eq (l : Lck) : V1184 [Lck.D l] = .bool (fewB l) := by
  have e0 : unLck (Lck.D l) = l := unLck_D l
  show (fun (l : Lck) => (.bool (fewB l) : D)) (unLck (Lck.D l)) = _
  rw [e0]
/-- linchpin/linchpinlaw33.keeps -/
def P1185 (ds : List D) : Prop := ∃ (a : List Kp) (b : List Kp), ds = [.sl 6 (a.map Kp.D), .sl 6 (b.map Kp.D)]
def V1185 (ds : List D) : D := let a := (unL unKp) (ds.getD 0 .any); let b := (unL unKp) (ds.getD 1 .any); (.bool (decide (a = b)) : D)
theorem V1185_eq (a : List Kp) (b : List Kp) : V1185 [.sl 6 (a.map Kp.D), .sl 6 (b.map Kp.D)] = .bool (decide (a = b)) := by
  have e0 : (unL unKp) (.sl 6 (a.map Kp.D)) = a := unL_map (fun x => rfl) 6 a
  have e1 : (unL unKp) (.sl 6 (b.map Kp.D)) = b := unL_map (fun x => rfl) 6 b
  show (fun (a : List Kp) (b : List Kp) => (.bool (decide (a = b)) : D)) ((unL unKp) (.sl 6 (a.map Kp.D))) ((unL unKp) (.sl 6 (b.map Kp.D))) = _
  rw [e0, e1]
/-- linchpin/linchpinlaw33.LockPrints -/
def P1186 (ds : List D) : Prop := ∃ (raw : Lck) (ks : List Int) (pa : Int) (pw : Int) (pb : Int), ds = [Lck.D raw, .sl 1 (ks.map (D.int .i64)), .int .i64 pa, .int .i64 pw, .int .i64 pb] ∧ (raw.sm)
def V1186 (ds : List D) : D := let raw := unLck (ds.getD 0 .any); let ks := (unL unI) (ds.getD 1 .any); let pa := unI (ds.getD 2 .any); let pw := unI (ds.getD 3 .any); let pb := unI (ds.getD 4 .any); (.bool true : D)
theorem V1186_eq (raw : Lck) (ks : List Int) (pa : Int) (pw : Int) (pb : Int) : V1186 [Lck.D raw, .sl 1 (ks.map (D.int .i64)), .int .i64 pa, .int .i64 pw, .int .i64 pb] = .bool true := by
  have e0 : unLck (Lck.D raw) = raw := unLck_D raw
  have e1 : (unL unI) (.sl 1 (ks.map (D.int .i64))) = ks := unL_map (fun x => rfl) 1 ks
  have e2 : unI (.int .i64 pa) = pa := rfl
  have e3 : unI (.int .i64 pw) = pw := rfl
  have e4 : unI (.int .i64 pb) = pb := rfl
  show (fun (raw : Lck) (ks : List Int) (pa : Int) (pw : Int) (pb : Int) => (.bool true : D)) (unLck (Lck.D raw)) ((unL unI) (.sl 1 (ks.map (D.int .i64)))) (unI (.int .i64 pa)) (unI (.int .i64 pw)) (unI (.int .i64 pb)) = _
  rw [e0, e1, e2, e3, e4]
/-- linchpin/linchpinlaw33.LockMay -/
def P1188 (ds : List D) : Prop := ∃ (raw : Lck) (ks : List Int) (pa : Int) (pw : Int) (pb : Int) (nm : Str), ds = [Lck.D raw, .sl 1 (ks.map (D.int .i64)), .int .i64 pa, .int .i64 pw, .int .i64 pb, .str nm] ∧ (raw.sm)
def V1188 (ds : List D) : D := let raw := unLck (ds.getD 0 .any); let ks := (unL unI) (ds.getD 1 .any); let pa := unI (ds.getD 2 .any); let pw := unI (ds.getD 3 .any); let pb := unI (ds.getD 4 .any); let nm := unS (ds.getD 5 .any); (.bool true : D)
theorem V1188_eq (raw : Lck) (ks : List Int) (pa : Int) (pw : Int) (pb : Int) (nm : Str) : V1188 [Lck.D raw, .sl 1 (ks.map (D.int .i64)), .int .i64 pa, .int .i64 pw, .int .i64 pb, .str nm] = .bool true := by
  have e0 : unLck (Lck.D raw) = raw := unLck_D raw
  have e1 : (unL unI) (.sl 1 (ks.map (D.int .i64))) = ks := unL_map (fun x => rfl) 1 ks
  have e2 : unI (.int .i64 pa) = pa := rfl
  have e3 : unI (.int .i64 pw) = pw := rfl
  have e4 : unI (.int .i64 pb) = pb := rfl
  have e5 : unS (.str nm) = nm := rfl
  show (fun (raw : Lck) (ks : List Int) (pa : Int) (pw : Int) (pb : Int) (nm : Str) => (.bool true : D)) (unLck (Lck.D raw)) ((unL unI) (.sl 1 (ks.map (D.int .i64)))) (unI (.int .i64 pa)) (unI (.int .i64 pw)) (unI (.int .i64 pb)) (unS (.str nm)) = _
  rw [e0, e1, e2, e3, e4, e5]
def tabY : List (Nat × Row) := [(25, ⟨1, P25, V25⟩), (29, ⟨2, P29, V29⟩), (93, ⟨3, P93, V93⟩), (101, ⟨1, P101, V101⟩), (109, ⟨2, fun _ => False, fun _ => .any⟩), (111, ⟨1, P111, V111⟩), (112, ⟨1, P112, V112⟩), (117, ⟨3, P117, V117⟩), (119, ⟨9, P119, V119⟩), (124, ⟨1, P124, V124⟩), (138, ⟨2, P138, V138⟩), (144, ⟨3, P144, V144⟩), (159, ⟨1, P159, V159⟩), (160, ⟨3, P160, V160⟩), (189, ⟨6, P189, V189⟩), (190, ⟨1, P190, V190⟩), (208, ⟨1, P208, V208⟩), (209, ⟨4, P209, V209⟩), (216, ⟨2, P216, V216⟩), (217, ⟨4, P217, V217⟩), (220, ⟨2, P220, V220⟩), (221, ⟨2, P221, V221⟩), (242, ⟨1, P242, V242⟩), (254, ⟨1, P254, V254⟩), (294, ⟨3, P294, V294⟩), (309, ⟨8, P309, V309⟩), (310, ⟨2, P310, V310⟩), (311, ⟨1, P311, V311⟩), (312, ⟨7, P312, V312⟩), (313, ⟨1, P313, V313⟩), (314, ⟨5, P314, V314⟩), (315, ⟨6, P315, V315⟩), (316, ⟨5, P316, V316⟩), (336, ⟨1, P336, V336⟩), (349, ⟨1, P349, V349⟩), (357, ⟨2, P357, V357⟩), (418, ⟨5, P418, V418⟩), (440, ⟨1, P440, V440⟩), (441, ⟨3, P441, V441⟩), (442, ⟨2, P442, V442⟩), (451, ⟨5, P451, V451⟩), (453, ⟨1, P453, V453⟩), (454, ⟨1, P454, V454⟩), (455, ⟨1, P455, V455⟩), (456, ⟨3, P456, V456⟩), (463, ⟨1, P463, V463⟩), (464, ⟨1, P464, V464⟩), (466, ⟨6, P466, V466⟩), (470, ⟨1, P470, V470⟩), (486, ⟨1, P486, V486⟩), (487, ⟨1, P487, V487⟩), (491, ⟨1, P491, V491⟩), (497, ⟨2, P497, V497⟩), (499, ⟨1, P499, V499⟩), (528, ⟨2, P528, V528⟩), (529, ⟨1, P529, V529⟩), (533, ⟨1, P533, V533⟩), (545, ⟨2, fun _ => False, fun _ => .any⟩), (546, ⟨3, P546, V546⟩), (547, ⟨7, P547, V547⟩), (548, ⟨1, P548, V548⟩), (549, ⟨6, P549, V549⟩), (550, ⟨4, P550, V550⟩), (551, ⟨3, P551, V551⟩), (552, ⟨2, P552, V552⟩), (553, ⟨5, P553, V553⟩), (554, ⟨3, P554, V554⟩), (571, ⟨8, P571, V571⟩), (594, ⟨1, P594, V594⟩), (658, ⟨1, P658, V658⟩), (659, ⟨1, P659, V659⟩), (665, ⟨2, P665, V665⟩), (666, ⟨1, P666, V666⟩), (667, ⟨2, P667, V667⟩), (668, ⟨1, P668, V668⟩), (675, ⟨1, P675, V675⟩), (686, ⟨1, P686, V686⟩), (733, ⟨1, P733, V733⟩), (734, ⟨2, P734, V734⟩), (743, ⟨7, P743, V743⟩), (882, ⟨1, P882, V882⟩), (894, ⟨1, P894, V894⟩), (895, ⟨6, P895, V895⟩), (1184, ⟨1, P1184, V1184⟩), (1185, ⟨1, P1185, V1185⟩), (1186, ⟨10, P1186, V1186⟩), (1188, ⟨10, P1188, V1188⟩)]
def tabF : List (Nat × RowF) := [(109, ⟨P109, V109, S109⟩), (545, ⟨P545, V545, S545⟩)]
def ctxY : Ctx := ctxOf tabY tabF
def rankY : Rank := rankOf tabY
theorem G25 {k u : Nat} (hk : 1 < k) : C25 (ctxY.under rankY k u) := fun v n hp0 => ⟨⟨.inl hk, v, n, rfl, hp0⟩, V25_eq v n⟩
theorem G29 {k u : Nat} (hk : 2 < k) : C29 (ctxY.under rankY k u) := fun n  => ⟨⟨.inl hk, n, rfl⟩, V29_eq n⟩
theorem G93 {k u : Nat} (hk : 3 < k) : C93 (ctxY.under rankY k u) := fun l pa pw pb hp0 => ⟨⟨.inl hk, l, pa, pw, pb, rfl, hp0⟩, V93_eq l pa pw pb⟩
theorem G101 {k u : Nat} (hk : 1 < k) : C101 (ctxY.under rankY k u) := fun l hp0 => ⟨⟨.inl hk, l, rfl, hp0⟩, V101_eq l⟩
theorem G109 {k u : Nat} (hk : 2 < k) : C109 (ctxY.under rankY k u) := fun g n hp0 hp1 => ⟨⟨.inl hk, g, n, rfl, rfl, hp0, hp1⟩, V109_eq g n, S109_eq g n⟩
theorem G111 {k u : Nat} (hk : 1 < k) : C111 (ctxY.under rankY k u) := ⟨⟨.inl hk, rfl⟩, V111_eq ⟩
theorem G112 {k u : Nat} (hk : 1 < k) : C112 (ctxY.under rankY k u) := ⟨⟨.inl hk, rfl⟩, V112_eq ⟩
theorem G117 {k u : Nat} (hk : 3 < k) : C117 (ctxY.under rankY k u) := fun a b  => ⟨⟨.inl hk, a, b, rfl⟩, V117_eq a b⟩
theorem G119 {k u : Nat} (hk : 9 < k) : C119 (ctxY.under rankY k u) := ⟨⟨.inl hk, rfl⟩, V119_eq ⟩
theorem G124 {k u : Nat} (hk : 1 < k) : C124 (ctxY.under rankY k u) := fun s b hp0 => ⟨⟨.inl hk, s, b, rfl, hp0⟩, V124_eq s b⟩
theorem G138 {k u : Nat} (hk : 2 < k) : C138 (ctxY.under rankY k u) := fun e  => ⟨⟨.inl hk, e, rfl⟩, V138_eq e⟩
theorem G144 {k u : Nat} (hk : 3 < k) : C144 (ctxY.under rankY k u) := fun e  => ⟨⟨.inl hk, e, rfl⟩, V144_eq e⟩
theorem G159 {k u : Nat} (hk : 1 < k) : C159 (ctxY.under rankY k u) := fun l i  => ⟨⟨.inl hk, l, i, rfl⟩, V159_eq l i⟩
theorem G160 {k u : Nat} (hk : 3 < k) : C160 (ctxY.under rankY k u) := fun ks  => ⟨⟨.inl hk, ks, rfl⟩, V160_eq ks⟩
theorem G189 {k u : Nat} (hk : 6 < k) : C189 (ctxY.under rankY k u) := fun l hp0 => ⟨⟨.inl hk, l, rfl, hp0⟩, V189_eq l⟩
theorem G190 {k u : Nat} (hk : 1 < k) : C190 (ctxY.under rankY k u) := fun l nm  => ⟨⟨.inl hk, l, nm, rfl⟩, V190_eq l nm⟩
theorem G208 {k u : Nat} (hk : 1 < k) : C208 (ctxY.under rankY k u) := fun s  => ⟨⟨.inl hk, s, rfl⟩, V208_eq s⟩
theorem G209 {k u : Nat} (hk : 4 < k) : C209 (ctxY.under rankY k u) := fun v hp0 => ⟨⟨.inl hk, v, rfl, hp0⟩, V209_eq v⟩
theorem G216 {k u : Nat} (hk : 2 < k) : C216 (ctxY.under rankY k u) := fun s  => ⟨⟨.inl hk, s, rfl⟩, V216_eq s⟩
theorem G217 {k u : Nat} (hk : 4 < k) : C217 (ctxY.under rankY k u) := fun v hp0 => ⟨⟨.inl hk, v, rfl, hp0⟩, V217_eq v⟩
theorem G220 {k u : Nat} (hk : 2 < k) : C220 (ctxY.under rankY k u) := fun s  => ⟨⟨.inl hk, s, rfl⟩, V220_eq s⟩
theorem G221 {k u : Nat} (hk : 2 < k) : C221 (ctxY.under rankY k u) := fun s  => ⟨⟨.inl hk, s, rfl⟩, V221_eq s⟩
theorem G242 {k u : Nat} (hk : 1 < k) : C242 (ctxY.under rankY k u) := fun l sep hp0 hp1 hp2 => ⟨⟨.inl hk, l, sep, rfl, hp0, hp1, hp2⟩, V242_eq l sep⟩
theorem G254 {k u : Nat} (hk : 1 < k) : C254 (ctxY.under rankY k u) := fun s p hp0 hp1 => ⟨⟨.inl hk, s, p, rfl, hp0, hp1⟩, V254_eq s p⟩
theorem G294 {k u : Nat} (hk : 3 < k) : C294 (ctxY.under rankY k u) := fun l nm  => ⟨⟨.inl hk, l, nm, rfl⟩, V294_eq l nm⟩
theorem G309 {k u : Nat} (hk : 8 < k) : C309 (ctxY.under rankY k u) := fun s hp0 => ⟨⟨.inl hk, s, rfl, hp0⟩, V309_eq s⟩
theorem G310 {k u : Nat} (hk : 2 < k) : C310 (ctxY.under rankY k u) := fun a b  => ⟨⟨.inl hk, a, b, rfl⟩, V310_eq a b⟩
theorem G311 {k u : Nat} (hk : 1 < k) : C311 (ctxY.under rankY k u) := fun a b  => ⟨⟨.inl hk, a, b, rfl⟩, V311_eq a b⟩
theorem G312 {k u : Nat} (hk : 7 < k) : C312 (ctxY.under rankY k u) := fun l hp0 => ⟨⟨.inl hk, l, rfl, hp0⟩, V312_eq l⟩
theorem G313 {k u : Nat} (hk : 1 < k) : C313 (ctxY.under rankY k u) := fun n  => ⟨⟨.inl hk, n, rfl⟩, V313_eq n⟩
theorem G314 {k u : Nat} (hk : 5 < k) : C314 (ctxY.under rankY k u) := fun a b  => ⟨⟨.inl hk, a, b, rfl⟩, V314_eq a b⟩
theorem G315 {k u : Nat} (hk : 6 < k) : C315 (ctxY.under rankY k u) := fun l hp0 => ⟨⟨.inl hk, l, rfl, hp0⟩, V315_eq l⟩
theorem G316 {k u : Nat} (hk : 5 < k) : C316 (ctxY.under rankY k u) := fun v hp0 => ⟨⟨.inl hk, v, rfl, hp0⟩, V316_eq v⟩
theorem G336 {k u : Nat} (hk : 1 < k) : C336 (ctxY.under rankY k u) := fun n hp0 => ⟨⟨.inl hk, n, rfl, hp0⟩, V336_eq n⟩
theorem G349 {k u : Nat} (hk : 1 < k) : C349 (ctxY.under rankY k u) := fun s  => ⟨⟨.inl hk, s, rfl⟩, V349_eq s⟩
theorem G357 {k u : Nat} (hk : 2 < k) : C357 (ctxY.under rankY k u) := fun s  => ⟨⟨.inl hk, s, rfl⟩, V357_eq s⟩
theorem G418 {k u : Nat} (hk : 5 < k) : C418 (ctxY.under rankY k u) := fun x hp0 => ⟨⟨.inl hk, x, rfl, hp0⟩, V418_eq x⟩
theorem G440 {k u : Nat} (hk : 1 < k) : C440 (ctxY.under rankY k u) := fun n  => ⟨⟨.inl hk, n, rfl⟩, V440_eq n⟩
theorem G441 {k u : Nat} (hk : 3 < k) : C441 (ctxY.under rankY k u) := fun s hp0 => ⟨⟨.inl hk, s, rfl, hp0⟩, V441_eq s⟩
theorem G442 {k u : Nat} (hk : 2 < k) : C442 (ctxY.under rankY k u) := fun s hp0 => ⟨⟨.inl hk, s, rfl, hp0⟩, V442_eq s⟩
theorem G451 {k u : Nat} (hk : 5 < k) : C451 (ctxY.under rankY k u) := fun v hp0 => ⟨⟨.inl hk, v, rfl, hp0⟩, V451_eq v⟩
theorem G453 {k u : Nat} (hk : 1 < k) : C453 (ctxY.under rankY k u) := fun c  => ⟨⟨.inl hk, c, rfl⟩, V453_eq c⟩
theorem G454 {k u : Nat} (hk : 1 < k) : C454 (ctxY.under rankY k u) := fun c  => ⟨⟨.inl hk, c, rfl⟩, V454_eq c⟩
theorem G455 {k u : Nat} (hk : 1 < k) : C455 (ctxY.under rankY k u) := fun n  => ⟨⟨.inl hk, n, rfl⟩, V455_eq n⟩
theorem G456 {k u : Nat} (hk : 3 < k) : C456 (ctxY.under rankY k u) := fun s p hp0 => ⟨⟨.inl hk, s, p, rfl, hp0⟩, V456_eq s p⟩
theorem G463 {k u : Nat} (hk : 1 < k) : C463 (ctxY.under rankY k u) := fun h k hp0 => ⟨⟨.inl hk, h, k, rfl, hp0⟩, V463_eq h k⟩
theorem G464 {k u : Nat} (hk : 1 < k) : C464 (ctxY.under rankY k u) := fun h n hp0 => ⟨⟨.inl hk, h, n, rfl, hp0⟩, V464_eq h n⟩
theorem G466 {k u : Nat} (hk : 6 < k) : C466 (ctxY.under rankY k u) := fun s hp0 => ⟨⟨.inl hk, s, rfl, hp0⟩, V466_eq s⟩
theorem G470 {k u : Nat} (hk : 1 < k) : C470 (ctxY.under rankY k u) := fun s b hp0 => ⟨⟨.inl hk, s, b, rfl, hp0⟩, V470_eq s b⟩
theorem G486 {k u : Nat} (hk : 1 < k) : C486 (ctxY.under rankY k u) := fun a b  => ⟨⟨.inl hk, a, b, rfl⟩, V486_eq a b⟩
theorem G487 {k u : Nat} (hk : 1 < k) : C487 (ctxY.under rankY k u) := fun s b hp0 => ⟨⟨.inl hk, s, b, rfl, hp0⟩, V487_eq s b⟩
theorem G491 {k u : Nat} (hk : 1 < k) : C491 (ctxY.under rankY k u) := fun s b hp0 => ⟨⟨.inl hk, s, b, rfl, hp0⟩, V491_eq s b⟩
theorem G497 {k u : Nat} (hk : 2 < k) : C497 (ctxY.under rankY k u) := fun n  => ⟨⟨.inl hk, n, rfl⟩, V497_eq n⟩
theorem G499 {k u : Nat} (hk : 1 < k) : C499 (ctxY.under rankY k u) := fun s  => ⟨⟨.inl hk, s, rfl⟩, V499_eq s⟩
theorem G528 {k u : Nat} (hk : 2 < k) : C528 (ctxY.under rankY k u) := fun l nm  => ⟨⟨.inl hk, l, nm, rfl⟩, V528_eq l nm⟩
theorem G529 {k u : Nat} (hk : 1 < k) : C529 (ctxY.under rankY k u) := fun x nm  => ⟨⟨.inl hk, x, nm, rfl⟩, V529_eq x nm⟩
theorem G533 {k u : Nat} (hk : 1 < k) : C533 (ctxY.under rankY k u) := fun s b hp0 => ⟨⟨.inl hk, s, b, rfl, hp0⟩, V533_eq s b⟩
theorem G545 {k u : Nat} (hk : 2 < k) : C545 (ctxY.under rankY k u) := fun r hp0 hp1 hp2 => ⟨⟨.inl hk, r, rfl, rfl, hp0, hp1, hp2⟩, V545_eq r, S545_eq r⟩
theorem G546 {k u : Nat} (hk : 3 < k) : C546 (ctxY.under rankY k u) := fun s hp0 => ⟨⟨.inl hk, s, rfl, hp0⟩, V546_eq s⟩
theorem G547 {k u : Nat} (hk : 7 < k) : C547 (ctxY.under rankY k u) := fun t hp0 => ⟨⟨.inl hk, t, rfl, hp0⟩, V547_eq t⟩
theorem G548 {k u : Nat} (hk : 1 < k) : C548 (ctxY.under rankY k u) := fun s  => ⟨⟨.inl hk, s, rfl⟩, V548_eq s⟩
theorem G549 {k u : Nat} (hk : 6 < k) : C549 (ctxY.under rankY k u) := fun x hp0 => ⟨⟨.inl hk, x, rfl, hp0⟩, V549_eq x⟩
theorem G550 {k u : Nat} (hk : 4 < k) : C550 (ctxY.under rankY k u) := fun a b  => ⟨⟨.inl hk, a, b, rfl⟩, V550_eq a b⟩
theorem G551 {k u : Nat} (hk : 3 < k) : C551 (ctxY.under rankY k u) := fun a b  => ⟨⟨.inl hk, a, b, rfl⟩, V551_eq a b⟩
theorem G552 {k u : Nat} (hk : 2 < k) : C552 (ctxY.under rankY k u) := fun a b  => ⟨⟨.inl hk, a, b, rfl⟩, V552_eq a b⟩
theorem G553 {k u : Nat} (hk : 5 < k) : C553 (ctxY.under rankY k u) := fun x hp0 => ⟨⟨.inl hk, x, rfl, hp0⟩, V553_eq x⟩
theorem G554 {k u : Nat} (hk : 3 < k) : C554 (ctxY.under rankY k u) := fun v hp0 => ⟨⟨.inl hk, v, rfl, hp0⟩, V554_eq v⟩
theorem G571 {k u : Nat} (hk : 8 < k) : C571 (ctxY.under rankY k u) := fun l hp0 => ⟨⟨.inl hk, l, rfl, hp0⟩, V571_eq l⟩
theorem G594 {k u : Nat} (hk : 1 < k) : C594 (ctxY.under rankY k u) := fun l hp0 => ⟨⟨.inl hk, l, rfl, hp0⟩, V594_eq l⟩
theorem G658 {k u : Nat} (hk : 1 < k) : C658 (ctxY.under rankY k u) := fun s  => ⟨⟨.inl hk, s, rfl⟩, V658_eq s⟩
theorem G659 {k u : Nat} (hk : 1 < k) : C659 (ctxY.under rankY k u) := fun t  => ⟨⟨.inl hk, t, rfl⟩, V659_eq t⟩
theorem G665 {k u : Nat} (hk : 2 < k) : C665 (ctxY.under rankY k u) := fun n hp0 => ⟨⟨.inl hk, n, rfl, hp0⟩, V665_eq n⟩
theorem G666 {k u : Nat} (hk : 1 < k) : C666 (ctxY.under rankY k u) := fun t  => ⟨⟨.inl hk, t, rfl⟩, V666_eq t⟩
theorem G667 {k u : Nat} (hk : 2 < k) : C667 (ctxY.under rankY k u) := fun s  => ⟨⟨.inl hk, s, rfl⟩, V667_eq s⟩
theorem G668 {k u : Nat} (hk : 1 < k) : C668 (ctxY.under rankY k u) := fun t  => ⟨⟨.inl hk, t, rfl⟩, V668_eq t⟩
theorem G675 {k u : Nat} (hk : 1 < k) : C675 (ctxY.under rankY k u) := fun s b  => ⟨⟨.inl hk, s, b, rfl⟩, V675_eq s b⟩
theorem G686 {k u : Nat} (hk : 1 < k) : C686 (ctxY.under rankY k u) := fun k hp0 => ⟨⟨.inl hk, k, rfl, hp0⟩, V686_eq k⟩
theorem G733 {k u : Nat} (hk : 1 < k) : C733 (ctxY.under rankY k u) := fun s  => ⟨⟨.inl hk, s, rfl⟩, V733_eq s⟩
theorem G734 {k u : Nat} (hk : 2 < k) : C734 (ctxY.under rankY k u) := fun n hp0 => ⟨⟨.inl hk, n, rfl, hp0⟩, V734_eq n⟩
theorem G743 {k u : Nat} (hk : 7 < k) : C743 (ctxY.under rankY k u) := fun l hp0 => ⟨⟨.inl hk, l, rfl, hp0⟩, V743_eq l⟩
theorem G882 {k u : Nat} (hk : 1 < k) : C882 (ctxY.under rankY k u) := fun n hp0 => ⟨⟨.inl hk, n, rfl, hp0⟩, V882_eq n⟩
theorem G894 {k u : Nat} (hk : 1 < k) : C894 (ctxY.under rankY k u) := fun s  => ⟨⟨.inl hk, s, rfl⟩, V894_eq s⟩
theorem G895 {k u : Nat} (hk : 6 < k) : C895 (ctxY.under rankY k u) := fun x hp0 => ⟨⟨.inl hk, x, rfl, hp0⟩, V895_eq x⟩
theorem G1184 {k u : Nat} (hk : 1 < k) : C1184 (ctxY.under rankY k u) := fun l  => ⟨⟨.inl hk, l, rfl⟩, V1184_eq l⟩
theorem G1185 {k u : Nat} (hk : 1 < k) : C1185 (ctxY.under rankY k u) := fun a b  => ⟨⟨.inl hk, a, b, rfl⟩, V1185_eq a b⟩
end Go.Abs
end
section
namespace Go.Abs
def nuY : List (Nat × Nat) := [(3, 1186), (5, 1188), (6, 1184), (7, 119), (8, 93), (9, 160), (10, 312), (11, 571), (12, 117), (13, 221), (14, 309), (15, 315), (16, 189), (17, 314), (18, 294), (19, 190), (20, 1185), (21, 101), (22, 594), (23, 313), (24, 25), (25, 112), (26, 29), (27, 109), (28, 111), (29, 548), (30, 549), (31, 497), (32, 220), (33, 743), (34, 310), (35, 464), (36, 545), (37, 546), (38, 254), (39, 491), (40, 499), (41, 547), (42, 553), (43, 138), (44, 144), (45, 418), (46, 550), (47, 551), (48, 552), (49, 528), (50, 529), (51, 159), (52, 451), (53, 242), (54, 686), (55, 463), (56, 894), (57, 895), (58, 311), (59, 487), (60, 124), (61, 733), (64, 466), (65, 349), (66, 208), (67, 209), (68, 357), (69, 216), (70, 217), (71, 486), (72, 665), (76, 316), (81, 675), (82, 533), (83, 658), (84, 440), (85, 441), (86, 442), (87, 453), (88, 454), (89, 455), (90, 456), (91, 336), (94, 554), (101, 659), (102, 470), (103, 666), (104, 667), (105, 668), (109, 734), (116, 882)]
def effY : List Nat := [219, 1091]
theorem mixY : (Go.Proofs.Tryz.prog).follows .mixedOrders = true := by kernel_rfl
end Go.Abs
end
section
namespace Go.Proofs
open Go.Shelf
def Tryz.lays156_ren : Go.Shelf.Ren := ⟨fun | 156 => 53 | 165 => 73 | 166 => 74 | 169 => 75 | 240 => 92 | 241 => 93 | 276 => 107 | 277 => 108 | n => n, fun | 31 => 51 | 9 => 9 | 3 => 3 | 4 => 4 | 0 => 0 | 20 => 20 | 72 => 112 | 76 => 116 | 70 => 110 | 37 => 40 | 75 => 115 | 127 => 128 | 164 => 131 | 5 => 5 | 80 => 68 | n => n, fun | n => n⟩
theorem Tryz.lays156 : Go.Proofs.Lays.n156 Tryz.prog Tryz.lays156_ren := {
  mixed := by kernel_rfl
  f156 := Tryz.func53.trans (congrArg some (by kernel_rfl))
  f165 := Tryz.func73.trans (congrArg some (by kernel_rfl))
  f166 := Tryz.func74.trans (congrArg some (by kernel_rfl))
  f169 := Tryz.func75.trans (congrArg some (by kernel_rfl))
  f240 := Tryz.func92.trans (congrArg some (by kernel_rfl))
  f241 := Tryz.func93.trans (congrArg some (by kernel_rfl))
  f276 := Tryz.func107.trans (congrArg some (by kernel_rfl))
  f277 := Tryz.func108.trans (congrArg some (by kernel_rfl))
  t0 := Tryz.underlying0
  a0 := Tryz.isAgg0
  z0 := Tryz.sizeOf0
  v0 := Tryz.zeroValue0
  t3 := Tryz.underlying3
  a3 := Tryz.isAgg3
  z3 := Tryz.sizeOf3
  v3 := Tryz.zeroValue3
  t4 := Tryz.underlying4
  a4 := Tryz.isAgg4
  z4 := Tryz.sizeOf4
  v4 := Tryz.zeroValue4
  t9 := Tryz.underlying9
  a9 := Tryz.isAgg9
  z9 := Tryz.sizeOf9
  v9 := Tryz.zeroValue9
  t20 := Tryz.underlying20
  a20 := Tryz.isAgg20
  z20 := Tryz.sizeOf20
  v20 := Tryz.zeroValue20
  t31 := Tryz.underlying51
  a31 := Tryz.isAgg51
  z31 := Tryz.sizeOf51
  v31 := Tryz.zeroValue51
  t37 := Tryz.underlying40
  a37 := Tryz.isAgg40
  z37 := Tryz.sizeOf40
  v37 := Tryz.zeroValue40
  t70 := Tryz.underlying110
  a70 := Tryz.isAgg110
  z70 := Tryz.sizeOf110
  v70 := Tryz.zeroValue110
  t72 := Tryz.underlying112
  a72 := Tryz.isAgg112
  z72 := Tryz.sizeOf112
  v72 := Tryz.zeroValue112
  t75 := Tryz.underlying115
  a75 := Tryz.isAgg115
  z75 := Tryz.sizeOf115
  v75 := Tryz.zeroValue115
  t76 := Tryz.underlying116
  a76 := Tryz.isAgg116
  z76 := Tryz.sizeOf116
  v76 := Tryz.zeroValue116
  t127 := Tryz.underlying128
  a127 := Tryz.isAgg128
  z127 := Tryz.sizeOf128
  v127 := Tryz.zeroValue128
  t164 := Tryz.underlying131
  a164 := Tryz.isAgg131
  z164 := Tryz.sizeOf131
  v164 := Tryz.zeroValue131 }
theorem Tryz.Builder_Extra_156 : Builder.Extra Tryz.prog Tryz.lays156_ren := {
  sizeBuilder := by kernel_rfl
  liesBuilder := by kernel_rfl
  t5 := Tryz.underlying5
  a5 := Tryz.isAgg5
  z5 := Tryz.sizeOf5
  v5 := Tryz.zeroValue5
  infoByte := by kernel_rfl
  cellsByte := by kernel_rfl
  sizeByte := by kernel_rfl
  neB5 := by decide }
open Go.RowKit in
/-- No element: the empty string; the world is as it was. (Whatever the slice's address and capacity: a nil slice too.) (LAID: no walk: one application.) -/
theorem Tryz.strings_Join_none (a : Option Addr) (c : Nat) (sep : ByteArray) (w : World) :
    Calls Tryz.prog 53 #[.slice a 0 c, .string sep] w fun e w' => e = .returned (.string ⟨#[]⟩) ∧ w' = w := Any.strings_Join_none Tryz.lays156 Tryz.Builder_Extra_156 a c sep w
open Go.RowKit in
/-- strings.Join: "Join concatenates the elements of its first argument to create a single string. The separator string sep is placed between elements in the resulting string.": HOWEVER MANY ELEMENTS. Below the heap's end the world is as it was. (LAID: no walk: one application.) -/
theorem Tryz.strings_Join (bk o c : Nat) (xs : List ByteArray) (sep : ByteArray) (w : World) (hcells : ∀ (j : Nat) x, xs[j]? = some x → w.cell? ⟨bk, o + j, none⟩ = some (.string x)) (hbk : bk < w.heap.size) (hN : xs.length ≤ 140737488355328) (hcap : xs.length ≤ c) (hlen : (Lib.join (xs.map (·.data.toList)) sep.data.toList).length ≤ 140737488355328) :
    Calls Tryz.prog 53 #[.slice (some ⟨bk, o, none⟩) xs.length c, .string sep] w fun e w' => e = .returned (.string ⟨(Lib.join (xs.map (·.data.toList)) sep.data.toList).toArray⟩) ∧ Below w.heap.size w w' := Any.strings_Join Tryz.lays156 Tryz.Builder_Extra_156 bk o c xs sep w hcells hbk hN hcap hlen
def Tryz.lays103_ren : Go.Shelf.Ren := ⟨fun | 103 => 38 | 210 => 62 | 206 => 79 | n => n, fun | 9 => 9 | 4 => 4 | 24 => 76 | 3 => 3 | n => n, fun | n => n⟩
theorem Tryz.lays103 : Go.Proofs.Lays.n103 Tryz.prog Tryz.lays103_ren := {
  mixed := by kernel_rfl
  f103 := Tryz.func38.trans (congrArg some (by kernel_rfl))
  f206 := Tryz.func79.trans (congrArg some (by kernel_rfl))
  f210 := Tryz.func62.trans (congrArg some (by kernel_rfl))
  t3 := Tryz.underlying3
  a3 := Tryz.isAgg3
  z3 := Tryz.sizeOf3
  v3 := Tryz.zeroValue3
  t4 := Tryz.underlying4
  a4 := Tryz.isAgg4
  z4 := Tryz.sizeOf4
  v4 := Tryz.zeroValue4
  t9 := Tryz.underlying9
  a9 := Tryz.isAgg9
  z9 := Tryz.sizeOf9
  v9 := Tryz.zeroValue9
  t24 := Tryz.underlying76
  a24 := Tryz.isAgg76
  z24 := Tryz.sizeOf76
  v24 := Tryz.zeroValue76 }
open Go.RowKit in
/-- strings.CutPrefix: "CutPrefix returns s without the provided leading prefix string and reports whether it found the prefix. If s doesn't start with prefix, CutPrefix returns s, false. If prefix is the empty string, CutPrefix returns s, true.": IT RETURNS '(Lib.trimPrefix s p, Lib.hasPrefix s p)'; the world is as it was. (LAID: no walk: one application.) -/
theorem Tryz.strings_CutPrefix (s p : ByteArray) (w : World) :
    Calls Tryz.prog 38 #[.string s, .string p] w fun e w' => e = .returned (.tuple #[.string ⟨(Lib.trimPrefix s.data.toList p.data.toList).toArray⟩, .bool (Lib.hasPrefix s.data.toList p.data.toList)]) ∧ w' = w := Any.strings_CutPrefix Tryz.lays103 s p w
def Tryz.laysM171_ren : Go.Shelf.Ren := ⟨fun | 171 => 91 | 243 => 106 | 246 => 115 | 283 => 118 | 284 => 119 | 285 => 120 | 286 => 121 | 129 => 123 | 317 => 122 | 318 => 124 | 319 => 125 | 320 => 126 | 337 => 127 | 338 => 128 | n => n, fun | 3 => 3 | 9 => 9 | 2 => 2 | 4 => 4 | 171 => 141 | 0 => 0 | 53 => 38 | 37 => 40 | 5 => 5 | 173 => 144 | 212 => 151 | 51 => 137 | 20 => 20 | 213 => 152 | 46 => 72 | 232 => 155 | 233 => 156 | n => n, fun | 17 => 3 | 18 => 4 | 19 => 5 | n => n⟩
theorem Tryz.laysM171 : Go.Proofs.LaysM.n171 Tryz.prog Tryz.laysM171_ren := {
  mixed := by kernel_rfl
  f129 := Tryz.func123.trans (congrArg some (by kernel_rfl))
  f171 := Tryz.func91.trans (congrArg some (by kernel_rfl))
  f243 := Tryz.func106.trans (congrArg some (by kernel_rfl))
  f246 := Tryz.func115.trans (congrArg some (by kernel_rfl))
  f283 := Tryz.func118.trans (congrArg some (by kernel_rfl))
  f284 := Tryz.func119.trans (congrArg some (by kernel_rfl))
  f285 := Tryz.func120.trans (congrArg some (by kernel_rfl))
  f286 := Tryz.func121.trans (congrArg some (by kernel_rfl))
  f317 := Tryz.func122.trans (congrArg some (by kernel_rfl))
  f318 := Tryz.func124.trans (congrArg some (by kernel_rfl))
  f319 := Tryz.func125.trans (congrArg some (by kernel_rfl))
  f320 := Tryz.func126.trans (congrArg some (by kernel_rfl))
  f337 := Tryz.func127.trans (congrArg some (by kernel_rfl))
  f338 := Tryz.func128.trans (congrArg some (by kernel_rfl))
  t0 := Tryz.underlying0
  a0 := Tryz.isAgg0
  z0 := Tryz.sizeOf0
  v0 := Tryz.zeroValue0
  t2 := Tryz.underlying2
  a2 := Tryz.isAgg2
  z2 := Tryz.sizeOf2
  v2 := Tryz.zeroValue2
  t3 := Tryz.underlying3
  a3 := Tryz.isAgg3
  z3 := Tryz.sizeOf3
  v3 := Tryz.zeroValue3
  t4 := Tryz.underlying4
  a4 := Tryz.isAgg4
  z4 := Tryz.sizeOf4
  v4 := Tryz.zeroValue4
  t5 := Tryz.underlying5
  a5 := Tryz.isAgg5
  z5 := Tryz.sizeOf5
  v5 := Tryz.zeroValue5
  t9 := Tryz.underlying9
  a9 := Tryz.isAgg9
  z9 := Tryz.sizeOf9
  v9 := Tryz.zeroValue9
  t20 := Tryz.underlying20
  a20 := Tryz.isAgg20
  z20 := Tryz.sizeOf20
  v20 := Tryz.zeroValue20
  t37 := Tryz.underlying40
  a37 := Tryz.isAgg40
  z37 := Tryz.sizeOf40
  v37 := Tryz.zeroValue40
  t46 := Tryz.underlying72
  a46 := Tryz.isAgg72
  z46 := Tryz.sizeOf72
  v46 := Tryz.zeroValue72
  t51 := Tryz.underlying137
  a51 := Tryz.isAgg137
  z51 := Tryz.sizeOf137
  v51 := Tryz.zeroValue137
  t53 := Tryz.underlying38
  a53 := Tryz.isAgg38
  z53 := Tryz.sizeOf38
  v53 := Tryz.zeroValue38
  t171 := Tryz.underlying141
  a171 := Tryz.isAgg141
  z171 := Tryz.sizeOf141
  v171 := Tryz.zeroValue141
  t173 := Tryz.underlying144
  a173 := Tryz.isAgg144
  z173 := Tryz.sizeOf144
  v173 := Tryz.zeroValue144
  t212 := Tryz.underlying151
  a212 := Tryz.isAgg151
  z212 := Tryz.sizeOf151
  v212 := Tryz.zeroValue151
  t213 := Tryz.underlying152
  a213 := Tryz.isAgg152
  z213 := Tryz.sizeOf152
  t232 := Tryz.underlying155
  a232 := Tryz.isAgg155
  z232 := Tryz.sizeOf155
  v232 := Tryz.zeroValue155
  t233 := Tryz.underlying156
  a233 := Tryz.isAgg156
  z233 := Tryz.sizeOf156
  v233 := Tryz.zeroValue156
  g17 := by kernel_rfl
  g18 := by kernel_rfl
  g19 := by kernel_rfl
  i0 := by kernel_rfl
  i2 := by kernel_rfl
  i3 := by kernel_rfl
  i4 := by kernel_rfl
  i5 := by kernel_rfl
  i9 := by kernel_rfl
  i20 := by kernel_rfl
  i37 := by kernel_rfl
  i46 := by kernel_rfl
  i51 := by kernel_rfl
  i53 := by kernel_rfl
  i171 := by kernel_rfl
  i173 := by kernel_rfl
  i212 := by kernel_rfl
  i232 := by kernel_rfl
  i233 := by kernel_rfl
  m17 := by kernel_rfl
  m18 := by kernel_rfl
  m19 := by kernel_rfl }
open Go.RowKit Go.Sort Go.Lib in
/-- strconv.Itoa: "Itoa is equivalent to FormatInt(int64(i), 10).": i's DECIMAL NUMERAL ('Lib.itoa': a '-' where i is negative, then the digits), FOR EVERY int. The world behind the call: the world before it, new blocks behind the heap (the library's 'var a [24]byte'), draws. (LAID: no walk: one application.) -/
theorem Tryz.strconv_Itoa (n : Int) (h0 : -9223372036854775808 ≤ n) (h1 : n ≤ 9223372036854775807) (w : World) (htab : Lib.TabIs Tryz.prog w "internal/strconv.uint64pow10" .u64 Lib.pow10Tab) :
    Calls Tryz.prog 91 #[.int .i64 n] w fun e w' => e = .returned (.string ⟨(Lib.itoa n).toArray⟩) ∧ ∃ k os, w' = grow (w.drewN k) os := Any.strconv_Itoa Tryz.laysM171 n h0 h1 w htab
def Tryz.lays144_ren : Go.Shelf.Ren := ⟨fun | 144 => 39 | 143 => 63 | 219 => 80 | 217 => 97 | 225 => 98 | 224 => 99 | 267 => 100 | 266 => 113 | 314 => 114 | n => n, fun | 9 => 9 | 4 => 4 | 3 => 3 | 5 => 5 | 46 => 72 | 146 => 138 | 51 => 137 | n => n, fun | 1 => 0 | n => n⟩
theorem Tryz.lays144 : Go.Proofs.Lays.n144 Tryz.prog Tryz.lays144_ren := {
  mixed := by kernel_rfl
  f143 := Tryz.func63.trans (congrArg some (by kernel_rfl))
  f144 := Tryz.func39.trans (congrArg some (by kernel_rfl))
  f217 := Tryz.func97.trans (congrArg some (by kernel_rfl))
  f219 := Tryz.func80.trans (congrArg some (by kernel_rfl))
  f224 := Tryz.func99.trans (congrArg some (by kernel_rfl))
  f225 := Tryz.func98.trans (congrArg some (by kernel_rfl))
  f266 := Tryz.func113.trans (congrArg some (by kernel_rfl))
  f267 := Tryz.func100.trans (congrArg some (by kernel_rfl))
  f314 := Tryz.func114.trans (congrArg some (by kernel_rfl))
  t3 := Tryz.underlying3
  a3 := Tryz.isAgg3
  z3 := Tryz.sizeOf3
  v3 := Tryz.zeroValue3
  t4 := Tryz.underlying4
  a4 := Tryz.isAgg4
  z4 := Tryz.sizeOf4
  v4 := Tryz.zeroValue4
  t5 := Tryz.underlying5
  a5 := Tryz.isAgg5
  z5 := Tryz.sizeOf5
  v5 := Tryz.zeroValue5
  t9 := Tryz.underlying9
  a9 := Tryz.isAgg9
  z9 := Tryz.sizeOf9
  v9 := Tryz.zeroValue9
  t46 := Tryz.underlying72
  a46 := Tryz.isAgg72
  z46 := Tryz.sizeOf72
  v46 := Tryz.zeroValue72
  t51 := Tryz.underlying137
  a51 := Tryz.isAgg137
  z51 := Tryz.sizeOf137
  v51 := Tryz.zeroValue137
  t146 := Tryz.underlying138
  a146 := Tryz.isAgg138
  z146 := Tryz.sizeOf138
  v146 := Tryz.zeroValue138
  g1 := by kernel_rfl }
open Go.RowKit Go.Lib in
/-- strings.Contains: "Contains reports whether substr is within s.": IT RETURNS 'Lib.contains s substr'; the world is as it was. (LAID: no walk: one application.) -/
theorem Tryz.strings_Contains (s sub : ByteArray) (m : Int) (w : World) (hs : s.size < 4294967281) (hm : w.cell? ⟨0, 0, none⟩ = some (.int .i64 m)) :
    Calls Tryz.prog 39 #[.string s, .string sub] w fun e w' => e = .returned (.bool (Lib.contains s.data.toList sub.data.toList)) ∧ w' = w := Any.strings_Contains Tryz.lays144 s sub m w hs hm
def Tryz.lays145_ren : Go.Shelf.Ren := ⟨fun | 145 => 59 | 220 => 77 | 219 => 80 | 217 => 97 | 225 => 98 | 224 => 99 | 267 => 100 | 266 => 113 | 314 => 114 | n => n, fun | 9 => 9 | 4 => 4 | 59 => 100 | 3 => 3 | 5 => 5 | 46 => 72 | 146 => 138 | 51 => 137 | n => n, fun | 1 => 0 | n => n⟩
theorem Tryz.lays145 : Go.Proofs.Lays.n145 Tryz.prog Tryz.lays145_ren := {
  mixed := by kernel_rfl
  f145 := Tryz.func59.trans (congrArg some (by kernel_rfl))
  f217 := Tryz.func97.trans (congrArg some (by kernel_rfl))
  f219 := Tryz.func80.trans (congrArg some (by kernel_rfl))
  f220 := Tryz.func77.trans (congrArg some (by kernel_rfl))
  f224 := Tryz.func99.trans (congrArg some (by kernel_rfl))
  f225 := Tryz.func98.trans (congrArg some (by kernel_rfl))
  f266 := Tryz.func113.trans (congrArg some (by kernel_rfl))
  f267 := Tryz.func100.trans (congrArg some (by kernel_rfl))
  f314 := Tryz.func114.trans (congrArg some (by kernel_rfl))
  t3 := Tryz.underlying3
  a3 := Tryz.isAgg3
  z3 := Tryz.sizeOf3
  v3 := Tryz.zeroValue3
  t4 := Tryz.underlying4
  a4 := Tryz.isAgg4
  z4 := Tryz.sizeOf4
  v4 := Tryz.zeroValue4
  t5 := Tryz.underlying5
  a5 := Tryz.isAgg5
  z5 := Tryz.sizeOf5
  v5 := Tryz.zeroValue5
  t9 := Tryz.underlying9
  a9 := Tryz.isAgg9
  z9 := Tryz.sizeOf9
  v9 := Tryz.zeroValue9
  t46 := Tryz.underlying72
  a46 := Tryz.isAgg72
  z46 := Tryz.sizeOf72
  v46 := Tryz.zeroValue72
  t51 := Tryz.underlying137
  a51 := Tryz.isAgg137
  z51 := Tryz.sizeOf137
  v51 := Tryz.zeroValue137
  t59 := Tryz.underlying100
  a59 := Tryz.isAgg100
  z59 := Tryz.sizeOf100
  v59 := Tryz.zeroValue100
  t146 := Tryz.underlying138
  a146 := Tryz.isAgg138
  z146 := Tryz.sizeOf138
  v146 := Tryz.zeroValue138
  g1 := by kernel_rfl }
open Go.RowKit Go.Lib in
/-- strings.Cut: "Cut slices s around the first instance of sep, returning the text before and after sep. The found result reports whether sep appears in s. If sep does not appear in s, cut returns s, "", false.": IT RETURNS 'Lib.cut s sep'; the world is as it was but for the count of draws. (LAID: no walk: one application.) -/
theorem Tryz.strings_Cut (s sep : ByteArray) (m : Int) (w : World) (hs : s.size < 4294967281) (hm : w.cell? ⟨0, 0, none⟩ = some (.int .i64 m)) :
    Calls Tryz.prog 59 #[.string s, .string sep] w fun e w' => e = .returned (.tuple #[.string ⟨(Lib.cut s.data.toList sep.data.toList).1.toArray⟩, .string ⟨(Lib.cut s.data.toList sep.data.toList).2.1.toArray⟩, .bool (Lib.cut s.data.toList sep.data.toList).2.2]) ∧ ∃ n, w' = w.drewN n := Any.strings_Cut Tryz.lays145 s sep m w hs hm
def Tryz.laysM144_ren : Go.Shelf.Ren := ⟨fun | 144 => 39 | 143 => 63 | 219 => 80 | 217 => 97 | 225 => 98 | 224 => 99 | 267 => 100 | 266 => 113 | 314 => 114 | n => n, fun | 9 => 9 | 4 => 4 | 3 => 3 | 5 => 5 | 46 => 72 | 146 => 138 | 51 => 137 | n => n, fun | 1 => 0 | n => n⟩
theorem Tryz.laysM144 : Go.Proofs.LaysM.n144 Tryz.prog Tryz.laysM144_ren := {
  mixed := by kernel_rfl
  f143 := Tryz.func63.trans (congrArg some (by kernel_rfl))
  f144 := Tryz.func39.trans (congrArg some (by kernel_rfl))
  f217 := Tryz.func97.trans (congrArg some (by kernel_rfl))
  f219 := Tryz.func80.trans (congrArg some (by kernel_rfl))
  f224 := Tryz.func99.trans (congrArg some (by kernel_rfl))
  f225 := Tryz.func98.trans (congrArg some (by kernel_rfl))
  f266 := Tryz.func113.trans (congrArg some (by kernel_rfl))
  f267 := Tryz.func100.trans (congrArg some (by kernel_rfl))
  f314 := Tryz.func114.trans (congrArg some (by kernel_rfl))
  t3 := Tryz.underlying3
  a3 := Tryz.isAgg3
  z3 := Tryz.sizeOf3
  v3 := Tryz.zeroValue3
  t4 := Tryz.underlying4
  a4 := Tryz.isAgg4
  z4 := Tryz.sizeOf4
  v4 := Tryz.zeroValue4
  t5 := Tryz.underlying5
  a5 := Tryz.isAgg5
  z5 := Tryz.sizeOf5
  v5 := Tryz.zeroValue5
  t9 := Tryz.underlying9
  a9 := Tryz.isAgg9
  z9 := Tryz.sizeOf9
  v9 := Tryz.zeroValue9
  t46 := Tryz.underlying72
  a46 := Tryz.isAgg72
  z46 := Tryz.sizeOf72
  v46 := Tryz.zeroValue72
  t51 := Tryz.underlying137
  a51 := Tryz.isAgg137
  z51 := Tryz.sizeOf137
  v51 := Tryz.zeroValue137
  t146 := Tryz.underlying138
  a146 := Tryz.isAgg138
  z146 := Tryz.sizeOf138
  v146 := Tryz.zeroValue138
  g1 := by kernel_rfl
  i3 := by kernel_rfl
  i4 := by kernel_rfl
  i5 := by kernel_rfl
  i9 := by kernel_rfl
  i46 := by kernel_rfl
  i51 := by kernel_rfl
  i146 := by kernel_rfl
  m1 := by kernel_rfl
  s1_3 := fun w h => Go.Proofs.cell_of_shapedOpen_int (zero := #[.int .i64 0]) (t := 3) h (of_decide_eq_true (by kernel_rfl)) (by kernel_rfl) rfl (by kernel_rfl) (by kernel_rfl) Tryz.underlying3 }
def Tryz.lays146_ren : Go.Shelf.Ren := ⟨fun | 146 => 60 | 221 => 78 | 268 => 95 | 138 => 96 | 143 => 63 | 195 => 110 | 197 => 111 | 218 => 112 | 219 => 80 | 260 => 117 | 217 => 97 | 225 => 98 | 224 => 99 | 267 => 100 | 266 => 113 | 314 => 114 | n => n, fun | 9 => 9 | 31 => 51 | 3 => 3 | 4 => 4 | 0 => 0 | 105 => 135 | 21 => 21 | 5 => 5 | 46 => 72 | 119 => 146 | 139 => 149 | 138 => 148 | 146 => 138 | 51 => 137 | n => n, fun | 1 => 0 | 3 => 1 | 4 => 2 | n => n⟩
theorem Tryz.lays146 : Go.Proofs.Lays.n146 Tryz.prog Tryz.lays146_ren := {
  mixed := by kernel_rfl
  f138 := Tryz.func96.trans (congrArg some (by kernel_rfl))
  f143 := Tryz.func63.trans (congrArg some (by kernel_rfl))
  f146 := Tryz.func60.trans (congrArg some (by kernel_rfl))
  f195 := Tryz.func110.trans (congrArg some (by kernel_rfl))
  f197 := Tryz.func111.trans (congrArg some (by kernel_rfl))
  f217 := Tryz.func97.trans (congrArg some (by kernel_rfl))
  f218 := Tryz.func112.trans (congrArg some (by kernel_rfl))
  f219 := Tryz.func80.trans (congrArg some (by kernel_rfl))
  f221 := Tryz.func78.trans (congrArg some (by kernel_rfl))
  f224 := Tryz.func99.trans (congrArg some (by kernel_rfl))
  f225 := Tryz.func98.trans (congrArg some (by kernel_rfl))
  f260 := Tryz.func117.trans (congrArg some (by kernel_rfl))
  f266 := Tryz.func113.trans (congrArg some (by kernel_rfl))
  f267 := Tryz.func100.trans (congrArg some (by kernel_rfl))
  f268 := Tryz.func95.trans (congrArg some (by kernel_rfl))
  f314 := Tryz.func114.trans (congrArg some (by kernel_rfl))
  t0 := Tryz.underlying0
  a0 := Tryz.isAgg0
  z0 := Tryz.sizeOf0
  v0 := Tryz.zeroValue0
  t3 := Tryz.underlying3
  a3 := Tryz.isAgg3
  z3 := Tryz.sizeOf3
  v3 := Tryz.zeroValue3
  t4 := Tryz.underlying4
  a4 := Tryz.isAgg4
  z4 := Tryz.sizeOf4
  v4 := Tryz.zeroValue4
  t5 := Tryz.underlying5
  a5 := Tryz.isAgg5
  z5 := Tryz.sizeOf5
  v5 := Tryz.zeroValue5
  t9 := Tryz.underlying9
  a9 := Tryz.isAgg9
  z9 := Tryz.sizeOf9
  v9 := Tryz.zeroValue9
  t21 := Tryz.underlying21
  a21 := Tryz.isAgg21
  z21 := Tryz.sizeOf21
  v21 := Tryz.zeroValue21
  t31 := Tryz.underlying51
  a31 := Tryz.isAgg51
  z31 := Tryz.sizeOf51
  v31 := Tryz.zeroValue51
  t46 := Tryz.underlying72
  a46 := Tryz.isAgg72
  z46 := Tryz.sizeOf72
  v46 := Tryz.zeroValue72
  t51 := Tryz.underlying137
  a51 := Tryz.isAgg137
  z51 := Tryz.sizeOf137
  v51 := Tryz.zeroValue137
  t105 := Tryz.underlying135
  a105 := Tryz.isAgg135
  z105 := Tryz.sizeOf135
  v105 := Tryz.zeroValue135
  t119 := Tryz.underlying146
  a119 := Tryz.isAgg146
  z119 := Tryz.sizeOf146
  t138 := Tryz.underlying148
  a138 := Tryz.isAgg148
  z138 := Tryz.sizeOf148
  v138 := Tryz.zeroValue148
  t139 := Tryz.underlying149
  a139 := Tryz.isAgg149
  z139 := Tryz.sizeOf149
  v139 := Tryz.zeroValue149
  t146 := Tryz.underlying138
  a146 := Tryz.isAgg138
  z146 := Tryz.sizeOf138
  v146 := Tryz.zeroValue138
  g1 := by kernel_rfl
  g3 := by kernel_rfl
  g4 := by kernel_rfl }
open Go.RowKit Go.Lib in
/-- strings.Split. (LAID: no walk: one application.) -/
theorem Tryz.strings_Split (s sep : ByteArray) (m : Int) (w : World) (hs : s.size < 4294967281) (hm : w.cell? ⟨0, 0, none⟩ = some (.int .i64 m)) (h1 : 1 ≤ sep.size) :
    Calls Tryz.prog 60 #[.string s, .string sep] w fun e w' =>
      e = .returned (.slice (some ⟨w.heap.size, 0, none⟩) (Lib.countB s sep + 1) (Lib.countB s sep + 1)) ∧ w' = w.alloc (.cells ((Lib.splitB sep 0 (Lib.countB s sep) s).map Value.string).toArray 9) := Any.strings_Split Tryz.lays146 (by kernel_rfl) s sep m w hs hm h1
end Go.Proofs
end
section
namespace Go.Abs
theorem pre1 (b c : UInt8) (r : Str) : ([b] : Str).isPrefixOf (c :: r) = (b == c) := by simp [List.isPrefixOf]
def ixO : Option Nat → Int
  | some k => (k : Int)
  | none => -1
theorem index1 : ∀ (s : Str) (b : UInt8), Lib.index s [b] = ixO (s.findIdx? (fun c => c == b))
  | [], b => rfl
  | c :: r, b => by
    unfold Lib.index
    rw [pre1, List.findIdx?_cons, index1 r b]
    by_cases h : c = b
    · subst h; simp [ixO]
    · have h1 : (b == c) = false := by simp [Ne.symm h]
      have h2 : (c == b) = false := by simp [h]
      simp only [h1, h2, Bool.false_eq_true, if_false]
      cases r.findIdx? (fun c => c == b) with
      | none => rfl
      | some k =>
        simp only [Option.map_some]
        rw [if_neg (by simp [ixO])]
        simp [ixO]
theorem cut_eq (s : Str) (b : UInt8) : Lib.cut s [b] = cutL s b := by
  unfold Lib.cut cutL
  rw [index1]
  cases s.findIdx? (fun c => c == b) with
  | none => simp [ixO]
  | some k => simp [ixO]
theorem contains_eq (s : Str) (b : UInt8) : Lib.contains s [b] = s.contains b := by
  unfold Lib.contains
  rw [index1]
  rw [Bool.eq_iff_iff]
  cases h : s.findIdx? (fun c => c == b) with
  | none =>
    have := List.findIdx?_eq_none_iff.1 h
    simp only [ixO, List.contains_iff_mem]
    constructor
    · intro h; exact absurd h (by decide)
    · intro hm; have := this b hm; simp at this
  | some k =>
    have h2 := List.findIdx?_eq_some_iff_getElem.1 h
    obtain ⟨h3, h4, _⟩ := h2
    simp only [ixO, List.contains_iff_mem]
    constructor
    · intro _; have : s[k] = b := by simpa using h4
      rw [← this]; exact List.getElem_mem _
    · intro _; exact decide_eq_true (Int.natCast_nonneg k)
theorem cutPre_eq (s p : Str) : (Lib.trimPrefix s p, Lib.hasPrefix s p) = cutPre s p := by
  unfold Lib.trimPrefix Lib.hasPrefix cutPre
  split <;> rename_i h
  · rw [h]
  · simp only [Bool.not_eq_true] at h; rw [h]
theorem joinS_eq (b : Str) : ∀ l, joinS b l = Lib.join l b
  | [] => rfl
  | [t] => (Lib.join_one t b).symm
  | t :: u :: r => by
    rw [joinS_cons _ _ _ (by simp), joinS_eq b (u :: r), Lib.join_cons, Lib.join_cons]
    simp [Lib.joinTail]
theorem decDigits_eq (n : Nat) : Lib.decDigits n = decN n := by
  induction n using Nat.strongRecOn with
  | _ n ih =>
    rw [Lib.decDigits]
    by_cases h : n < 10
    · rw [dif_pos h, decN_lt h]; rfl
    · rw [dif_neg h, decN_ge (by omega), ih (n / 10) (by omega)]; rfl
theorem itoa_eq {n : Int} (h : 0 ≤ n) : Lib.itoa n = decN n.toNat := by
  unfold Lib.itoa
  rw [if_neg (by omega), decDigits_eq]
theorem splitX_no (b : UInt8) : ∀ (s cur : Str), s.findIdx? (fun c => c == b) = none → splitX b.toNat s cur = [cur ++ s]
  | [], cur, _ => by simp [splitX]
  | c :: r, cur, h => by
    rw [List.findIdx?_cons] at h
    split at h
    · cases h
    · rename_i hc
      have hr : r.findIdx? (fun c => c == b) = none := by
        cases hq : r.findIdx? (fun c => c == b) with
        | none => rfl
        | some k => rw [hq] at h; cases h
      have hne : ¬ ((c.toNat : Int) = (b.toNat : Int)) := fun e => hc (by
        have : c.toNat = b.toNat := by omega
        simp [UInt8.toNat_inj.1 this])
      simp only [splitX, if_neg hne]
      rw [splitX_no b r (cur ++ [c]) hr]; simp
theorem splitX_hit (b : UInt8) : ∀ (s cur : Str) (k : Nat), s.findIdx? (fun c => c == b) = some k → splitX b.toNat s cur = (cur ++ s.take k) :: splitX b.toNat (s.drop (k + 1)) []
  | [], cur, k, h => by simp at h
  | c :: r, cur, k, h => by
    rw [List.findIdx?_cons] at h
    split at h
    · rename_i hc
      have hk : k = 0 := by simpa using h.symm
      subst hk
      have hcb : c = b := by simpa using hc
      subst hcb
      simp [splitX]
    · rename_i hc
      have hne : ¬ ((c.toNat : Int) = (b.toNat : Int)) := fun e => hc (by
        have : c.toNat = b.toNat := by omega
        simp [UInt8.toNat_inj.1 this])
      cases hq : r.findIdx? (fun c => c == b) with
      | none => rw [hq] at h; cases h
      | some j =>
        rw [hq] at h
        have hk : k = j + 1 := by simpa using h.symm
        subst hk
        simp only [splitX, if_neg hne]
        rw [splitX_hit b r (cur ++ [c]) j hq]; simp
theorem splitB_eq (b : UInt8) : ∀ (k : Nat) (s : ByteArray), Lib.countB s ⟨⟨[b]⟩⟩ = k → (Lib.splitB ⟨⟨[b]⟩⟩ 0 k s).map (fun t => t.data.toList) = splitL s.data.toList b.toNat := by
  intro k
  induction k with
  | zero =>
    intro s h
    rw [Lib.splitB_zero]
    have hi : Lib.indexB s ⟨⟨[b]⟩⟩ = ixO (s.data.toList.findIdx? (fun c => c == b)) := index1 _ b
    cases hq : s.data.toList.findIdx? (fun c => c == b) with
    | none => simp [splitL, splitX_no b _ [] hq]
    | some j =>
      rw [hq] at hi
      have := Lib.countB_hit s ⟨⟨[b]⟩⟩ j (Nat.le_refl 1) hi
      omega
  | succ k ih =>
    intro s h
    have hi : Lib.indexB s ⟨⟨[b]⟩⟩ = ixO (s.data.toList.findIdx? (fun c => c == b)) := index1 _ b
    cases hq : s.data.toList.findIdx? (fun c => c == b) with
    | none =>
      rw [hq] at hi
      have := Lib.countB_miss s ⟨⟨[b]⟩⟩ hi
      omega
    | some j =>
      rw [hq] at hi
      have h1 : 1 ≤ (⟨⟨[b]⟩⟩ : ByteArray).size := Nat.le_refl 1
      have hc := Lib.countB_hit s ⟨⟨[b]⟩⟩ j h1 hi
      rw [Lib.splitB_hit _ _ _ _ j hi]
      simp only [List.map_cons]
      rw [ih _ (by omega)]
      have e1 : (s.extract 0 (j + 0)).data.toList = s.data.toList.take j := by
        rw [Lib.extract_data]; simp
      have e2 : (s.extract (j + (⟨⟨[b]⟩⟩ : ByteArray).size) s.size).data.toList = s.data.toList.drop (j + 1) := by
        rw [Lib.extract_data]
        exact List.take_of_length_le (by rw [List.length_drop, Lib.size_eq]; exact Nat.le_refl _)
      rw [e1, e2]
      simp only [splitL]
      rw [splitX_hit b _ [] j hq]; simp
end Go.Abs
end
section
namespace Go.Abs
open Go.Proofs
def pow10G : Nat := 3
theorem pow10_named : Tryz.prog.globalNamed "internal/strconv.uint64pow10" = some pow10G := by kernel_rfl
instance tryzGlob : Glob where
  gd x := (x.I 0 ∧ ∃ m, x.w.cell? ⟨0, 0, none⟩ = some (.int .i64 m)) ∧ x.I pow10G ∧ Lib.TabIs Tryz.prog x.w "internal/strconv.uint64pow10" .u64 Lib.pow10Tab
  le x x' hI hk h := by
    obtain ⟨⟨h1, m, h2⟩, h3, h4⟩ := h
    refine ⟨⟨hI _ h1, m, cell_keep (hk _ h1) h2⟩, hI _ h3, ?_⟩
    unfold Lib.TabIs World.var? at h4 ⊢
    rw [pow10_named] at h4 ⊢
    simp only [Option.bind_some] at h4 ⊢
    rw [hk _ h3]; exact h4
/-- what the library does, as the table wants it -/
theorem does_call {fid : Nat} {x : X} {args : Array Value} {d : D} (hn : (Tryz.prog.funcs[fid]?).map (fun f => f.name == "runtime.NumGoroutine" || !f.body.isSome) = some false)
    (himm : ∀ b, x.I b → b < x.w.heap.size)
    (hc : Calls Tryz.prog fid args x.w fun e w' => ∃ v, e = .returned v ∧ Grow x.w w' ∧ ∃ I : Nat → Prop, (∀ b, x.I b → I b) ∧ (∀ b, I b → x.I b ∨ x.w.heap.size ≤ b ∧ b < w'.heap.size) ∧ RD nuY ⟨w', I, x.β⟩ v d) :
    Does Tryz.prog x (fun v x' => PStep x x' ∧ RD nuY x' v d) ((callFunc fid args).run Tryz.prog x.w) := by
  cases h : Tryz.prog.funcs[fid]? with
  | none => rw [h] at hn; cases hn
  | some fn =>
    rw [h] at hn
    have h2 : (fn.name == "runtime.NumGoroutine" || !fn.body.isSome) = false := Option.some.inj hn
    rw [Bool.or_eq_false_iff, Bool.not_eq_false'] at h2
    refine .inr ⟨fid, args, callFunc_enter h h2.1 h2.2 args x.w, Calls.mono hc fun e w' he => ?_⟩
    obtain ⟨v, rfl, hg, I, h3, h4, hr⟩ := he
    refine ⟨⟨w', I, x.β⟩, rfl, ⟨hg, h3, fun b hb => (h4 b hb).imp id And.left, fun b hb => ?_, rfl⟩, hr⟩
    rcases h4 b hb with h5 | h5
    · exact Nat.lt_of_lt_of_le (himm b h5) hg.size
    · exact h5.2
theorem grow_drewN (w : World) : ∀ n, Grow w (w.drewN n)
  | n => ⟨rfl, rfl, rfl, Nat.le_refl _, fun _ _ => rfl⟩
/-- where nothing new is frozen -/
theorem does_same {fid : Nat} {x : X} {args : Array Value} {d : D} {v : Value} (hn : (Tryz.prog.funcs[fid]?).map (fun f => f.name == "runtime.NumGoroutine" || !f.body.isSome) = some false)
    (himm : ∀ b, x.I b → b < x.w.heap.size) (hc : Calls Tryz.prog fid args x.w fun e w' => e = .returned v ∧ Grow x.w w') (hr : ∀ x', RD nuY x' v d) :
    Does Tryz.prog x (fun v x' => PStep x x' ∧ RD nuY x' v d) ((callFunc fid args).run Tryz.prog x.w) :=
  does_call hn himm (Calls.mono hc fun e w' ⟨h1, h2⟩ => ⟨v, h1, h2, x.I, fun _ h => h, fun _ h => .inl h, hr _⟩)
theorem str_arg {x : X} {v : Value} {s : Str} (h : RD nuY x v (.str s)) : v = .string ⟨⟨s⟩⟩ ∧ s.length ≤ maxLen := by
  cases h with
  | str s h => exact ⟨rfl, h⟩
theorem int_arg {x : X} {v : Value} {k : IntKind} {n : Int} (h : RD nuY x v (.int k n)) : v = .int k n := by
  cases h with
  | int k n => rfl
theorem args2 {args : Array Value} (h : args.size = 2) : args = #[args.getD 0 undef, args.getD 1 undef] := by
  obtain ⟨l⟩ := args
  match l, h with
  | [a, b], _ => rfl
theorem args1 {args : Array Value} (h : args.size = 1) : args = #[args.getD 0 undef] := by
  obtain ⟨l⟩ := args
  match l, h with
  | [a], _ => rfl
theorem E491 : Good Tryz.prog nuY (ctxY.under rankY 1 0) effY P491 V491 39 := by
  rintro ds ⟨s, b, rfl, hp⟩ hok x args hl hargs hnl himm ⟨⟨_, m, hm⟩, _⟩
  rw [V491_eq]
  obtain ⟨h0, hs⟩ := str_arg (hargs 0 (by simp))
  obtain ⟨h1, _⟩ := str_arg (hargs 1 (by simp))
  rw [args2 hl, h0, h1]
  refine does_same (by kernel_rfl) himm (Calls.mono (Tryz.strings_Contains ⟨⟨s⟩⟩ ⟨⟨[b]⟩⟩ m x.w (by show s.length < _; omega) hm) fun e w' ⟨h1, h2⟩ => ⟨h1, h2 ▸ Grow.refl _⟩) (fun x' => ?_)
  show RD nuY x' (.bool (Lib.contains s [b])) _
  rw [contains_eq]; exact .bool _
theorem rd_tup2 {x : X} {a b : Value} {d e : D} (h1 : RD nuY x a d) (h2 : RD nuY x b e) : RD nuY x (.tuple #[a, b]) (.tup [d, e]) := by
  refine .tup _ _ rfl fun i hi => ?_
  match i, hi with
  | 0, _ => exact h1
  | 1, _ => exact h2
theorem rd_tup3 {x : X} {a b c : Value} {d e f : D} (h1 : RD nuY x a d) (h2 : RD nuY x b e) (h3 : RD nuY x c f) : RD nuY x (.tuple #[a, b, c]) (.tup [d, e, f]) := by
  refine .tup _ _ rfl fun i hi => ?_
  match i, hi with
  | 0, _ => exact h1
  | 1, _ => exact h2
  | 2, _ => exact h3
theorem rd_str {x : X} (s : Str) (h : s.length ≤ 4294967296) : RD nuY x (.string ⟨s.toArray⟩) (.str s) := .str s (by simp only [maxLen]; omega)
theorem cutL_len2 (s : Str) (b : UInt8) : (cutL s b).2.1.length ≤ s.length := by
  unfold cutL; split <;> simp
theorem E487 : Good Tryz.prog nuY (ctxY.under rankY 1 0) effY P487 V487 59 := by
  rintro ds ⟨s, b, rfl, hp⟩ hok x args hl hargs hnl himm ⟨⟨_, m, hm⟩, _⟩
  rw [V487_eq]
  obtain ⟨h0, hs⟩ := str_arg (hargs 0 (by simp))
  obtain ⟨h1, _⟩ := str_arg (hargs 1 (by simp))
  rw [args2 hl, h0, h1]
  refine does_same (by kernel_rfl) himm (Calls.mono (Tryz.strings_Cut ⟨⟨s⟩⟩ ⟨⟨[b]⟩⟩ m x.w (by show s.length < _; omega) hm) fun e w' ⟨h1, n, h2⟩ => ⟨h1, h2 ▸ grow_drewN _ n⟩) (fun x' => ?_)
  have hc : Lib.cut (⟨⟨s⟩⟩ : ByteArray).data.toList (⟨⟨[b]⟩⟩ : ByteArray).data.toList = cutL s b := cut_eq s b
  rw [hc]
  have := (cutL_len s b).1
  have := cutL_len2 s b
  exact rd_tup3 (rd_str _ (by omega)) (rd_str _ (by omega)) (.bool _)
theorem E254 : Good Tryz.prog nuY (ctxY.under rankY 1 0) effY P254 V254 38 := by
  rintro ds ⟨s, p, rfl, hp, hp2⟩ hok x args hl hargs hnl himm _
  rw [V254_eq]
  obtain ⟨h0, hs⟩ := str_arg (hargs 0 (by simp))
  obtain ⟨h1, _⟩ := str_arg (hargs 1 (by simp))
  rw [args2 hl, h0, h1]
  refine does_same (by kernel_rfl) himm (Calls.mono (Tryz.strings_CutPrefix ⟨⟨s⟩⟩ ⟨⟨p⟩⟩ x.w) fun e w' ⟨h1, h2⟩ => ⟨h1, h2 ▸ Grow.refl _⟩) (fun x' => ?_)
  have hc : (Lib.trimPrefix s p, Lib.hasPrefix s p) = cutPre s p := cutPre_eq s p
  have := cutPre_len s p
  rw [← hc] at this ⊢
  have h9 : (Lib.trimPrefix s p).length ≤ s.length := this
  exact rd_tup2 (rd_str (Lib.trimPrefix s p) (by omega)) (.bool _)
theorem E336 : Good Tryz.prog nuY (ctxY.under rankY 1 0) effY P336 V336 91 := by
  rintro ds ⟨n, rfl, hp⟩ hok x args hl hargs hnl himm ⟨_, _, ht⟩
  rw [V336_eq]
  have h0 := int_arg (hargs 0 (by simp))
  rw [args1 hl, h0]
  refine does_same (by kernel_rfl) himm (Calls.mono (Tryz.strconv_Itoa n (by omega) (by omega) x.w ht) fun e w' ⟨h1, k, os, h2⟩ => ⟨h1, ?_⟩) (fun x' => ?_)
  · subst h2
    refine ⟨rfl, rfl, rfl, by simp [Sort.grow], fun b hb => ?_⟩
    show (x.w.heap ++ os)[b]? = x.w.heap[b]?
    rw [Array.getElem?_append, if_pos hb]
  · rw [itoa_eq hp.1]
    have := decN_len 4 n.toNat (by omega) (by omega)
    exact rd_str _ (by omega)
theorem E124 : Good Tryz.prog nuY (ctxY.under rankY 1 0) effY P124 V124 60 := by
  rintro ds ⟨s, b, rfl, hp⟩ hok x args hl hargs hnl himm ⟨⟨_, m, hm⟩, _⟩
  rw [V124_eq]
  obtain ⟨h0, hs⟩ := str_arg (hargs 0 (by simp))
  obtain ⟨h1, _⟩ := str_arg (hargs 1 (by simp))
  rw [args2 hl, h0, h1]
  have hlen := Lib.splitB_all ⟨⟨[b]⟩⟩ (Nat.le_refl 1) 0 _ (⟨⟨s⟩⟩ : ByteArray) rfl
  have heq := splitB_eq b _ (⟨⟨s⟩⟩ : ByteArray) rfl
  generalize hts : Lib.splitB ⟨⟨[b]⟩⟩ 0 (Lib.countB ⟨⟨s⟩⟩ ⟨⟨[b]⟩⟩) ⟨⟨s⟩⟩ = ts at hlen heq
  have hsl : (splitL s b.toNat).length = ts.length := by rw [← show ts.map (fun t => t.data.toList) = splitL s b.toNat from heq]; simp
  have hle := splitL_len s b.toNat
  refine does_call (by kernel_rfl) himm (Calls.mono (Tryz.strings_Split ⟨⟨s⟩⟩ ⟨⟨[b]⟩⟩ m x.w (by show s.length < _; omega) hm (Nat.le_refl 1)) fun e w' ⟨h1, h2⟩ => ?_)
  rw [← hlen] at h1
  rw [hts] at h2
  subst h2
  have hgrow : Grow x.w (x.w.alloc (.cells (ts.map Value.string).toArray 9)) := Grow.alloc _ _
  refine ⟨_, h1, hgrow, fun q => x.I q ∨ q = x.w.heap.size, fun _ h => .inl h, fun q hq => hq.imp id fun h => ⟨by omega, by rw [h]; show _ < (x.w.heap.push _).size; simp⟩, ?_⟩
  have hget : ∀ i, i < ts.length → ((splitL s b.toNat).map D.str).getD i .any = .str (ts.getD i default).data.toList := fun i hi => by
    rw [← show ts.map (fun t => t.data.toList) = splitL s b.toNat from heq]
    simp [hi]
  refine .sl _ x.w.heap.size 0 ts.length ts.length 1 _ (fun i _ => .string (ts.getD i default)) (by simp [hsl]) (.inr ⟨rfl, .inr rfl⟩) (Nat.le_refl _) (by simp only [maxLen]; omega) (fun i hi => by rw [hget i hi]; rfl) (fun i hi => by rw [hget i hi]; rfl) (fun i j hi hj => ?_) (fun i j hi hj => rfl) (fun i j hi hj => ?_)
  · obtain rfl : j = 0 := by omega
    have := heap_push_new x.w (.cells (ts.map Value.string).toArray 9)
    refine (cell_of_heap (c := (ts.map Value.string).toArray) (T := 9) (fr := (0, 0)) this (by simp; omega)).trans ?_
    simp [hi]
  · obtain rfl : j = 0 := by omega
    rw [hget i hi]
    show RD nuY _ (.string (ts.getD i default)) (.str (ts.getD i default).data.toList)
    generalize hq : ts.getD i default = q
    have hmem : q.data.toList ∈ splitL s b.toNat := by
      rw [← show ts.map (fun t => t.data.toList) = splitL s b.toNat from heq]
      refine List.mem_map.2 ⟨q, ?_, rfl⟩
      rw [← hq]; simp [hi]
    have := splitL_mem s b.toNat hmem
    obtain ⟨⟨ql⟩⟩ := q
    exact .str ql (by simp only at this; simp only [maxLen]; omega)
theorem joinS_len (sep : Str) (B : Nat) : ∀ l : List Str, (∀ t ∈ l, t.length ≤ B) → (joinS sep l).length ≤ l.length * (B + sep.length)
  | [], _ => by simp [joinS]
  | [t], h => by have := h t (.head _); simp only [joinS, List.length_cons, List.length_nil]; omega
  | t :: u :: r, h => by
    have h1 := h t (.head _)
    have h2 := joinS_len sep B (u :: r) fun x hx => h x (.tail _ hx)
    rw [joinS_cons _ _ _ (by simp)]
    rw [List.length_cons, Nat.succ_mul]
    simp only [List.length_append]
    omega
theorem E242 : Good Tryz.prog nuY (ctxY.under rankY 1 0) effY P242 V242 53 := by
  rintro ds ⟨l, sep, rfl, hp1, hp2, hp3⟩ hok x args hl hargs hnl himm _
  rw [V242_eq]
  have h0 := hargs 0 (by simp)
  obtain ⟨h1, _⟩ := str_arg (hargs 1 (by simp))
  rw [args2 hl, h1]
  have hj := joinS_len sep 2097200 l hp3
  have hj2 := Nat.mul_le_mul_right (2097200 + sep.length) hp1
  have hj3 : 1048600 * (2097200 + sep.length) ≤ 140737488355328 := by
    have := Nat.mul_le_mul_left 1048600 (show 2097200 + sep.length ≤ 2097204 by omega); omega
  have hjm : (joinS sep l).length ≤ 140737488355328 := by omega
  simp only [List.getD_cons_zero] at h0
  generalize args.getD 0 undef = v0 at h0 ⊢
  cases h0 with
  | sl a b off len cap k es c hlen ha hcap hm hk hn hc h1 h =>
    simp only [List.length_map] at hlen
    subst hlen
    rcases ha with he | ⟨rfl, hI⟩
    · have hnil : l = [] := by simpa using he
      subst hnil
      refine does_same (by kernel_rfl) himm (Calls.mono (Tryz.strings_Join_none a cap ⟨⟨sep⟩⟩ x.w) fun e w' ⟨h1, h2⟩ => ⟨h1, h2 ▸ Grow.refl _⟩) (fun x' => ?_)
      exact rd_str [] (by simp)
    · have hcell : ∀ i, (hi : i < l.length) → x.w.cell? ⟨b, off + i, none⟩ = some (.string ⟨⟨l[i]⟩⟩) := fun i hi => by
        have q1 := hc i 0 hi (by omega)
        have q2 := h i 0 hi (by omega)
        have e : ((l.map D.str).getD i .any).cells.getD 0 .any = .str l[i] := by simp [hi, D.cells]
        rw [e] at q2
        rw [(str_arg q2).1] at q1
        simpa using q1
      have e2 : (l.map fun t => (⟨⟨t⟩⟩ : ByteArray)).map (fun t => t.data.toList) = l := by rw [List.map_map]; exact List.map_id l
      have hjl : Lib.join ((l.map fun t => (⟨⟨t⟩⟩ : ByteArray)).map (fun t => t.data.toList)) (⟨⟨sep⟩⟩ : ByteArray).data.toList = joinS sep l := by rw [e2]; exact (joinS_eq sep l).symm
      have key := Tryz.strings_Join b off cap (l.map fun t => ⟨⟨t⟩⟩) ⟨⟨sep⟩⟩ x.w (fun j y hy => by
        rw [List.getElem?_map, Option.map_eq_some_iff] at hy
        obtain ⟨t, ht, rfl⟩ := hy
        obtain ⟨hlt, rfl⟩ := List.getElem?_eq_some_iff.1 ht
        exact hcell j hlt) (himm b hI) (by simp; omega) (by simpa using hcap) (by rw [hjl]; exact hjm)
      rw [hjl, List.length_map] at key
      refine does_same (by kernel_rfl) himm (Calls.mono key fun e w' ⟨h1, h2⟩ => ⟨h1, h2.os, h2.tape, h2.output, h2.size, h2.block⟩) (fun x' => ?_)
      exact .str _ (by simp only [maxLen]; omega)
end Go.Abs
end
section
namespace Go.Abs
section
variable [Glob]
theorem K25 : ((Go.Proofs.Tryz.prog).funcs[24]?).bind (compile (Go.Proofs.Tryz.prog) nuY effY) = some made_Place := by kernel_rfl
theorem N25 : ((Go.Proofs.Tryz.prog).funcs[24]?).map (fun f => f.name == "runtime.NumGoroutine") = some false := by kernel_rfl
theorem H25 : Good (Go.Proofs.Tryz.prog) nuY (ctxY.under rankY 1 0) effY P25 V25 24 := good_of mixY K25 N25 (by
  rintro ds ⟨v, n, rfl, hp0⟩
  refine ⟨rfl, ?_⟩
  rw [V25_eq]
  exact w25 (under_mono _ _ _ _ _ _)  v n hp0)
theorem K112 : ((Go.Proofs.Tryz.prog).funcs[25]?).bind (compile (Go.Proofs.Tryz.prog) nuY effY) = some made_Versions := by kernel_rfl
theorem N112 : ((Go.Proofs.Tryz.prog).funcs[25]?).map (fun f => f.name == "runtime.NumGoroutine") = some false := by kernel_rfl
theorem H112 : Good (Go.Proofs.Tryz.prog) nuY (ctxY.under rankY 1 0) effY P112 V112 25 := good_of mixY K112 N112 (by
  rintro ds rfl
  refine ⟨rfl, ?_⟩
  rw [V112_eq]
  exact w112 (under_mono _ _ _ _ _ _)  )
theorem K160 : ((Go.Proofs.Tryz.prog).funcs[9]?).bind (compile (Go.Proofs.Tryz.prog) nuY effY) = some made_Lock := by kernel_rfl
theorem N160 : ((Go.Proofs.Tryz.prog).funcs[9]?).map (fun f => f.name == "runtime.NumGoroutine") = some false := by kernel_rfl
theorem H160 : Good (Go.Proofs.Tryz.prog) nuY (ctxY.under rankY 3 0) effY P160 V160 9 := good_of mixY K160 N160 (by
  rintro ds ⟨ks, rfl⟩
  refine ⟨rfl, ?_⟩
  rw [V160_eq]
  exact w160 (under_mono _ _ _ _ _ _) (G25 (by decide)) (G29 (by decide)) (G109 (by decide)) (G111 (by decide)) (G112 (by decide)) ks)
theorem K217 : ((Go.Proofs.Tryz.prog).funcs[70]?).bind (compile (Go.Proofs.Tryz.prog) nuY effY) = some ref2_May := by kernel_rfl
theorem N217 : ((Go.Proofs.Tryz.prog).funcs[70]?).map (fun f => f.name == "runtime.NumGoroutine") = some false := by kernel_rfl
theorem H217 : Good (Go.Proofs.Tryz.prog) nuY (ctxY.under rankY 4 0) effY P217 V217 70 := good_of mixY K217 N217 (by
  rintro ds ⟨v, rfl, hp0⟩
  refine ⟨rfl, ?_⟩
  rw [V217_eq]
  exact w217 (under_mono _ _ _ _ _ _) (G455 (by decide)) (G456 (by decide)) v hp0)
theorem K311 : ((Go.Proofs.Tryz.prog).funcs[58]?).bind (compile (Go.Proofs.Tryz.prog) nuY effY) = some ref33_SameLine := by kernel_rfl
theorem N311 : ((Go.Proofs.Tryz.prog).funcs[58]?).map (fun f => f.name == "runtime.NumGoroutine") = some false := by kernel_rfl
theorem H311 : Good (Go.Proofs.Tryz.prog) nuY (ctxY.under rankY 1 0) effY P311 V311 58 := good_of mixY K311 N311 (by
  rintro ds ⟨a, b, rfl⟩
  refine ⟨rfl, ?_⟩
  rw [V311_eq]
  exact w311 (under_mono _ _ _ _ _ _)  a b)
theorem K349 : ((Go.Proofs.Tryz.prog).funcs[65]?).bind (compile (Go.Proofs.Tryz.prog) nuY effY) = some ident_Word := by kernel_rfl
theorem N349 : ((Go.Proofs.Tryz.prog).funcs[65]?).map (fun f => f.name == "runtime.NumGoroutine") = some false := by kernel_rfl
theorem H349 : Good (Go.Proofs.Tryz.prog) nuY (ctxY.under rankY 1 0) effY P349 V349 65 := good_of mixY K349 N349 (by
  rintro ds ⟨s, rfl⟩
  refine ⟨rfl, ?_⟩
  rw [V349_eq]
  exact w349 (under_mono _ _ _ _ _ _)  s)
theorem K451 : ((Go.Proofs.Tryz.prog).funcs[52]?).bind (compile (Go.Proofs.Tryz.prog) nuY effY) = some version_Print := by kernel_rfl
theorem N451 : ((Go.Proofs.Tryz.prog).funcs[52]?).map (fun f => f.name == "runtime.NumGoroutine") = some false := by kernel_rfl
theorem H451 : Good (Go.Proofs.Tryz.prog) nuY (ctxY.under rankY 5 0) effY P451 V451 52 := good_of mixY K451 N451 (by
  rintro ds ⟨v, rfl, hp0⟩
  refine ⟨rfl, ?_⟩
  rw [V451_eq]
  exact w451 (under_mono _ _ _ _ _ _) (G209 (by decide)) (G665 (by decide)) v hp0)
theorem K464 : ((Go.Proofs.Tryz.prog).funcs[35]?).bind (compile (Go.Proofs.Tryz.prog) nuY effY) = some ref9_turn := by kernel_rfl
theorem N464 : ((Go.Proofs.Tryz.prog).funcs[35]?).map (fun f => f.name == "runtime.NumGoroutine") = some false := by kernel_rfl
theorem H464 : Good (Go.Proofs.Tryz.prog) nuY (ctxY.under rankY 1 0) effY P464 V464 35 := good_of mixY K464 N464 (by
  rintro ds ⟨h, n, rfl, hp0⟩
  refine ⟨rfl, ?_⟩
  rw [V464_eq]
  exact w464 (under_mono _ _ _ _ _ _)  h n hp0)
theorem K528 : ((Go.Proofs.Tryz.prog).funcs[49]?).bind (compile (Go.Proofs.Tryz.prog) nuY effY) = some slices_IndexFunc := by kernel_rfl
theorem N528 : ((Go.Proofs.Tryz.prog).funcs[49]?).map (fun f => f.name == "runtime.NumGoroutine") = some false := by kernel_rfl
theorem H528 : Good (Go.Proofs.Tryz.prog) nuY (ctxY.under rankY 2 0) effY P528 V528 49 := good_of mixY K528 N528 (by
  rintro ds ⟨l, nm, rfl⟩
  refine ⟨rfl, ?_⟩
  rw [V528_eq]
  exact w528 (under_mono _ _ _ _ _ _) (G529 (by decide)) l nm)
theorem K548 : ((Go.Proofs.Tryz.prog).funcs[29]?).bind (compile (Go.Proofs.Tryz.prog) nuY effY) = some lock_dash := by kernel_rfl
theorem N548 : ((Go.Proofs.Tryz.prog).funcs[29]?).map (fun f => f.name == "runtime.NumGoroutine") = some false := by kernel_rfl
theorem H548 : Good (Go.Proofs.Tryz.prog) nuY (ctxY.under rankY 1 0) effY P548 V548 29 := good_of mixY K548 N548 (by
  rintro ds ⟨s, rfl⟩
  refine ⟨rfl, ?_⟩
  rw [V548_eq]
  exact w548 (under_mono _ _ _ _ _ _)  s)
theorem K554 : ((Go.Proofs.Tryz.prog).funcs[94]?).bind (compile (Go.Proofs.Tryz.prog) nuY effY) = some ref2_Numbers := by kernel_rfl
theorem N554 : ((Go.Proofs.Tryz.prog).funcs[94]?).map (fun f => f.name == "runtime.NumGoroutine") = some false := by kernel_rfl
theorem H554 : Good (Go.Proofs.Tryz.prog) nuY (ctxY.under rankY 3 0) effY P554 V554 94 := good_of mixY K554 N554 (by
  rintro ds ⟨v, rfl, hp0⟩
  refine ⟨rfl, ?_⟩
  rw [V554_eq]
  exact w554 (under_mono _ _ _ _ _ _) (G734 (by decide)) v hp0)
theorem K666 : ((Go.Proofs.Tryz.prog).funcs[103]?).bind (compile (Go.Proofs.Tryz.prog) nuY effY) = some ref2_tag := by kernel_rfl
theorem N666 : ((Go.Proofs.Tryz.prog).funcs[103]?).map (fun f => f.name == "runtime.NumGoroutine") = some false := by kernel_rfl
theorem H666 : Good (Go.Proofs.Tryz.prog) nuY (ctxY.under rankY 1 0) effY P666 V666 103 := good_of mixY K666 N666 (by
  rintro ds ⟨t, rfl⟩
  refine ⟨rfl, ?_⟩
  rw [V666_eq]
  exact w666 (under_mono _ _ _ _ _ _)  t)
theorem K734 : ((Go.Proofs.Tryz.prog).funcs[109]?).bind (compile (Go.Proofs.Tryz.prog) nuY effY) = some ref1_Digits := by kernel_rfl
theorem N734 : ((Go.Proofs.Tryz.prog).funcs[109]?).map (fun f => f.name == "runtime.NumGoroutine") = some false := by kernel_rfl
theorem H734 : Good (Go.Proofs.Tryz.prog) nuY (ctxY.under rankY 2 0) effY P734 V734 109 := good_of mixY K734 N734 (by
  rintro ds ⟨n, rfl, hp0⟩
  refine ⟨rfl, ?_⟩
  rw [V734_eq]
  exact w734 (under_mono _ _ _ _ _ _) (G882 (by decide)) n hp0)
theorem K1185 : ((Go.Proofs.Tryz.prog).funcs[20]?).bind (compile (Go.Proofs.Tryz.prog) nuY effY) = some law33_keeps := by kernel_rfl
theorem N1185 : ((Go.Proofs.Tryz.prog).funcs[20]?).map (fun f => f.name == "runtime.NumGoroutine") = some false := by kernel_rfl
theorem H1185 : Good (Go.Proofs.Tryz.prog) nuY (ctxY.under rankY 1 0) effY P1185 V1185 20 := good_of mixY K1185 N1185 (by
  rintro ds ⟨a, b, rfl⟩
  refine ⟨rfl, ?_⟩
  rw [V1185_eq]
  exact w1185 (under_mono _ _ _ _ _ _)  a b)
end
end Go.Abs
end
