/- A part of the proofs of the statements: U6, U7, U8, U8b, U9, U10, U11, U12, U13, U14, U15, U16, U17, UX, U18, U19, V1, V2, V3, V4. -/
import Derived.Test.YtpdlhpamcaocgaaGreatDoorP07
set_option linter.all false
section
namespace Go.Abs
open Go
def oz : aI := { np := 1, ns := 14, res := [⟨1, none⟩], rsh := [[.a]], body := (.seq (rg [gb 7 s0, gm (cb false)] [(2, 0), (1, 1)]) (.seq (.seq (rg [gf 0 s2, gd l0, gn (bQ l1 (i6 1)), gm l2, ⟨.fa 0 s2, some (3, false)⟩, ⟨.ld 1 false l4, some (3, false)⟩, ⟨.bin .gtr l5 (i6 9), some (3, false)⟩, gn (.pick l3 (cb true) l6), gm l7, ⟨.fa 2 s2, some (8, false)⟩, ⟨.ld 5 true l9, some (8, false)⟩, ⟨.call 209 [l10] [[.a, .a, .a, .a, .a]], some (8, false)⟩, ⟨.un .not kl, some (8, false)⟩, gn (.pick l8 (cb true) lJ), gm nB, ⟨.fa 2 s2, some (14, false)⟩, ⟨.fa 4 oN, some (14, false)⟩, ⟨.ld 1 false qm, some (14, false)⟩, ⟨.bin .neq rT (cs []), some (14, false)⟩, gn (.pick nW (cb true) rU)] [(3, 19)]) (.cond s3 (.seq (rg [gm (cb false)] [(1, 0)]) .ret) .skip)) (.seq (rg [gm (i6 1), gm (i6 3)] [(5, 0), (6, 1)]) (.seq (.seq (rg [gf 0 s2, gd l0, gn (bA l1 (i6 9))] [(4, 2)]) (.cond s4 (rg [gm (i6 0), gm (i6 2)] [(5, 0), (6, 1)]) .skip)) (.seq (.seq (rg [gf 1 s2, gd l0, gm s5, gn (bQ l1 l2), gm l3, ⟨.fa 1 s2, some (4, false)⟩, ⟨.ld 1 false l5, some (4, false)⟩, ⟨.mv s6, some (4, false)⟩, ⟨.bin .gtr l6 l7, some (4, false)⟩, gn (.pick l4 (cb true) l8), gm l9, ⟨.fa 2 s2, some (10, false)⟩, ⟨.fa 3 kl, some (10, false)⟩, ⟨.ld 1 false lJ, some (10, false)⟩, ⟨.bin .neq nB (cs []), some (10, false)⟩, ⟨.mv nW, some (10, false)⟩, ⟨.fa 1 s2, some (15, true)⟩, ⟨.ld 1 false qm, some (15, true)⟩, ⟨.bin .lss rT (i6 3), some (15, true)⟩, ⟨.pick oN rU (cb false), some (10, false)⟩, gn (.pick l10 (cb true) tK)] [(7, 20)]) (.cond s7 (.seq (rg [gm (cb false)] [(1, 0)]) .ret) .skip)) (.seq (.seq (rg [gf 1 s2, gd l0] [(8, 1)]) (.block 0 (.seq (.block 3 (.seq (.block 2 (.seq (.block 1 (.seq (.seq (.seq (rg [gn (bA s8 (i6 0)), gm l0] [(9, 1)]) (.cond s9 (.exit 1) .skip)) (.seq (.seq (rg [gn (bA s8 (i6 1)), gm l0] [(10, 1)]) (.cond kF (.exit 2) .skip)) (.seq (rg [gn (bA s8 (i6 2)), gm l0] [(11, 1)]) (.cond mV (.exit 3) .skip)))) (.exit 0))) (.seq (rg [gf 2 s2, gf 0 l0, gd l1, gn (cN l2 (i6 0))] [(12, 3)]) (.cond jV (.seq (rg [gm (cb false)] [(1, 0)]) .ret) .skip)))) (.seq (rg [gf 2 s2, gf 1 l0, gd l1, gn (cN l2 (i6 0))] [(13, 3)]) (.cond ri (.seq (rg [gm (cb false)] [(1, 0)]) .ret) .skip)))) (.seq (.seq (rg [gf 2 s2, gf 2 l0, gd l1, gn (bA l2 (i6 0)), gm l3] [(1, 4)]) .ret) (.exit 0))))) (.seq (rg [gm (cb true)] [(1, 0)]) .ret))))))) }
theorem w827 {Γ : Ctx} (hm : (Γ.at 0).bN) (h209 : Aw (Γ.at 0)) (c : cL)  (hp0 : c.v.sm) : bo (Γ.at 0) oz.body (eC oz (.bool (jt c)) : Ex → List aN → St → Prop) (bF oz [cL.D c]) ⟨0, []⟩ := by
 show bo _ _ _ [⟨true, cL.D c⟩, .un, .un, .un, .un, .un, .un, .un, .un, .un, .un, .un, .un, .un] ⟨0, []⟩
 refine aw ?_
 refine aZ ?_
 refine ae ?_
 refine ai [(1, ⟨_, .bool _⟩), (2, ⟨_, _⟩)] ?_
 iterate 3 refine ae ?_
 refine aj (v := (.int _ _)) ?_
 refine aW ?_
 iterate 2 refine ae ?_
 refine aj (v := (.int _ _)) ?_
 refine bE ?_
 refine bY ?_
 iterate 2 refine ae ?_
 refine aj (v := dP.D c.v) ?_
 refine jN (hc := fun hf => h209 c.v hp0) ?_
 refine ct ?_
 refine bY ?_
 iterate 3 refine ae ?_
 refine aj (v := (.str _)) ?_
 refine cn ?_
 refine bY ?_
 refine ai [(3, ⟨_, .bool _⟩)] ?_
 refine ak (fun hc0 => ?_) (fun hc0 => ?_)
 ·have hq := AK hc0
  iterate 3 refine ae ?_
  refine ai [(1, ⟨_, .bool _⟩)] ?_
  refine ae ?_
  refine aB (congrArg D.bool ?_)
  rw [hq]
 ·have hy := zq hc0
  iterate 4 refine ae ?_
  refine ai [(5, ⟨_, .int _ _⟩), (6, ⟨_, .int _ _⟩)] ?_
  iterate 3 refine ae ?_
  refine aj (v := (.int _ _)) ?_
  refine aQ ?_
  refine ai [(4, ⟨_, .bool _⟩)] ?_
  refine ak (fun hc1 => ?_) (fun hc1 => ?_)
  ·simp only [decide_eq_true_eq] at hc1
   have hz := tw hy (lo := 0) (hi := 2) (if_pos hc1) (if_pos hc1)
   iterate 3 refine ae ?_
   refine ai [(5, ⟨_, .int _ _⟩), (6, ⟨_, .int _ _⟩)] ?_
   iterate 3 refine ae ?_
   refine aj (v := (.int _ _)) ?_
   refine ae ?_
   refine aW ?_
   iterate 2 refine ae ?_
   refine aj (v := (.int _ _)) ?_
   refine ae ?_
   refine bE ?_
   refine bY ?_
   iterate 3 refine ae ?_
   refine aj (v := (.str _)) ?_
   refine cn ?_
   iterate 2 refine ae ?_
   refine aj (v := (.int _ _)) ?_
   refine aW ?_
   refine bK ?_
   refine bY ?_
   refine ai [(7, ⟨_, .bool _⟩)] ?_
   refine ak (fun hc2 => ?_) (fun hc2 => ?_)
   ·rw [Bool.and_comm (!decide (c.v.pre = []))] at hc2
    rw [hc2] at hz
    iterate 3 refine ae ?_
    refine ai [(1, ⟨_, .bool _⟩)] ?_
    refine ae ?_
    refine aB (congrArg D.bool ?_)
    rw [hz]; simp [lH] <;> simp_all <;> omega
   ·rw [Bool.and_comm (!decide (c.v.pre = []))] at hc2
    rw [hc2] at hz
    iterate 4 refine ae ?_
    refine aj (v := (.int _ _)) ?_
    refine ai [(8, ⟨_, .int _ _⟩)] ?_
    refine ax ?_ hm
    refine ax ?_ hm
    refine ax ?_ hm
    refine ax ?_ hm
    iterate 3 refine ae ?_
    refine aQ ?_
    refine ae ?_
    refine ai [(9, ⟨_, .bool _⟩)] ?_
    refine ak (fun hc3 => ?_) (fun hc3 => ?_)
    ·try simp only [au] at hc3
     refine ae ?_
     refine BQ.out ?_
     iterate 3 refine ae ?_
     refine aj (v := (.int _ _)) ?_
     refine bU ?_
     refine ai [(12, ⟨_, .bool _⟩)] ?_
     refine wp_cond (fun hc6 => ?_) (fun hc6 => ?_)
     ·try simp only [au] at hc6
      iterate 2 refine ae ?_
      refine ai [(1, ⟨_, .bool _⟩)] ?_
      iterate 4 refine ae ?_
      refine aB (congrArg D.bool ?_)
      rw [hz]; simp [lH] <;> simp_all <;> omega
     ·try simp only [au] at hc6
      iterate 5 refine ae ?_
      refine aj (v := (.int _ _)) ?_
      refine bU ?_
      refine ai [(13, ⟨_, .bool _⟩)] ?_
      refine wp_cond (fun hc7 => ?_) (fun hc7 => ?_)
      ·try simp only [au] at hc7
       iterate 2 refine ae ?_
       refine ai [(1, ⟨_, .bool _⟩)] ?_
       iterate 3 refine ae ?_
       refine aB (congrArg D.bool ?_)
       rw [hz]; simp [lH] <;> simp_all <;> omega
      ·try simp only [au] at hc7
       iterate 6 refine ae ?_
       refine aj (v := (.int _ _)) ?_
       refine aQ ?_
       refine ae ?_
       refine ai [(1, ⟨_, .bool _⟩)] ?_
       iterate 2 refine ae ?_
       refine aB (congrArg D.bool ?_)
       rw [hz]; simp [lH] <;> simp_all <;> omega
    ·try simp only [au] at hc3
     iterate 4 refine ae ?_
     refine aQ ?_
     refine ae ?_
     refine ai [(10, ⟨_, .bool _⟩)] ?_
     refine ak (fun hc4 => ?_) (fun hc4 => ?_)
     ·try simp only [au] at hc4
      refine ae ?_
      refine BQ.other ah ?_
      refine BQ.out ?_
      iterate 3 refine ae ?_
      refine aj (v := (.int _ _)) ?_
      refine bU ?_
      refine ai [(13, ⟨_, .bool _⟩)] ?_
      refine wp_cond (fun hc7 => ?_) (fun hc7 => ?_)
      ·try simp only [au] at hc7
       iterate 2 refine ae ?_
       refine ai [(1, ⟨_, .bool _⟩)] ?_
       iterate 3 refine ae ?_
       refine aB (congrArg D.bool ?_)
       rw [hz]; simp [lH] <;> simp_all <;> omega
      ·try simp only [au] at hc7
       iterate 6 refine ae ?_
       refine aj (v := (.int _ _)) ?_
       refine aQ ?_
       refine ae ?_
       refine ai [(1, ⟨_, .bool _⟩)] ?_
       iterate 2 refine ae ?_
       refine aB (congrArg D.bool ?_)
       rw [hz]; simp [lH] <;> simp_all <;> omega
     ·try simp only [au] at hc4
      iterate 3 refine ae ?_
      refine aQ ?_
      refine ae ?_
      refine ai [(11, ⟨_, .bool _⟩)] ?_
      refine ak (fun hc5 => ?_) (fun hc5 => ?_)
      ·try simp only [au] at hc5
       refine ae ?_
       refine BQ.other ah ?_
       refine BQ.other ah ?_
       refine BQ.out ?_
       iterate 4 refine ae ?_
       refine aj (v := (.int _ _)) ?_
       refine aQ ?_
       refine ae ?_
       refine ai [(1, ⟨_, .bool _⟩)] ?_
       iterate 2 refine ae ?_
       refine aB (congrArg D.bool ?_)
       rw [hz]; simp [lH] <;> simp_all <;> omega
      ·try simp only [au] at hc5
       refine ae ?_
       refine wp_exit ?_
       refine BQ.other ah ?_
       refine BQ.other ah ?_
       refine BQ.other ah ?_
       refine BQ.out ?_
       iterate 2 refine ae ?_
       refine ai [(1, ⟨_, .bool _⟩)] ?_
       refine ae ?_
       refine aB (congrArg D.bool ?_)
       rw [hz]; simp [lH] <;> simp_all <;> omega
  ·simp only [decide_eq_false_iff_not] at hc1
   have hz := tw hy (lo := 1) (hi := 3) (if_neg hc1) (if_neg hc1)
   iterate 4 refine ae ?_
   refine aj (v := (.int _ _)) ?_
   refine ae ?_
   refine aW ?_
   iterate 2 refine ae ?_
   refine aj (v := (.int _ _)) ?_
   refine ae ?_
   refine bE ?_
   refine bY ?_
   iterate 3 refine ae ?_
   refine aj (v := (.str _)) ?_
   refine cn ?_
   iterate 2 refine ae ?_
   refine aj (v := (.int _ _)) ?_
   refine aW ?_
   refine bK ?_
   refine bY ?_
   refine ai [(7, ⟨_, .bool _⟩)] ?_
   refine ak (fun hc2 => ?_) (fun hc2 => ?_)
   ·rw [Bool.and_comm (!decide (c.v.pre = []))] at hc2
    rw [hc2] at hz
    iterate 3 refine ae ?_
    refine ai [(1, ⟨_, .bool _⟩)] ?_
    refine ae ?_
    refine aB (congrArg D.bool ?_)
    rw [hz]; simp [lH] <;> simp_all <;> omega
   ·rw [Bool.and_comm (!decide (c.v.pre = []))] at hc2
    rw [hc2] at hz
    iterate 4 refine ae ?_
    refine aj (v := (.int _ _)) ?_
    refine ai [(8, ⟨_, .int _ _⟩)] ?_
    refine ax ?_ hm
    refine ax ?_ hm
    refine ax ?_ hm
    refine ax ?_ hm
    iterate 3 refine ae ?_
    refine aQ ?_
    refine ae ?_
    refine ai [(9, ⟨_, .bool _⟩)] ?_
    refine ak (fun hc3 => ?_) (fun hc3 => ?_)
    ·try simp only [au] at hc3
     refine ae ?_
     refine BQ.out ?_
     iterate 3 refine ae ?_
     refine aj (v := (.int _ _)) ?_
     refine bU ?_
     refine ai [(12, ⟨_, .bool _⟩)] ?_
     refine wp_cond (fun hc6 => ?_) (fun hc6 => ?_)
     ·try simp only [au] at hc6
      iterate 2 refine ae ?_
      refine ai [(1, ⟨_, .bool _⟩)] ?_
      iterate 4 refine ae ?_
      refine aB (congrArg D.bool ?_)
      rw [hz]; simp [lH] <;> simp_all <;> omega
     ·try simp only [au] at hc6
      iterate 5 refine ae ?_
      refine aj (v := (.int _ _)) ?_
      refine bU ?_
      refine ai [(13, ⟨_, .bool _⟩)] ?_
      refine wp_cond (fun hc7 => ?_) (fun hc7 => ?_)
      ·try simp only [au] at hc7
       iterate 2 refine ae ?_
       refine ai [(1, ⟨_, .bool _⟩)] ?_
       iterate 3 refine ae ?_
       refine aB (congrArg D.bool ?_)
       rw [hz]; simp [lH] <;> simp_all <;> omega
      ·try simp only [au] at hc7
       iterate 6 refine ae ?_
       refine aj (v := (.int _ _)) ?_
       refine aQ ?_
       refine ae ?_
       refine ai [(1, ⟨_, .bool _⟩)] ?_
       iterate 2 refine ae ?_
       refine aB (congrArg D.bool ?_)
       rw [hz]; simp [lH] <;> simp_all <;> omega
    ·try simp only [au] at hc3
     iterate 4 refine ae ?_
     refine aQ ?_
     refine ae ?_
     refine ai [(10, ⟨_, .bool _⟩)] ?_
     refine ak (fun hc4 => ?_) (fun hc4 => ?_)
     ·try simp only [au] at hc4
      refine ae ?_
      refine BQ.other ah ?_
      refine BQ.out ?_
      iterate 3 refine ae ?_
      refine aj (v := (.int _ _)) ?_
      refine bU ?_
      refine ai [(13, ⟨_, .bool _⟩)] ?_
      refine wp_cond (fun hc7 => ?_) (fun hc7 => ?_)
      ·try simp only [au] at hc7
       iterate 2 refine ae ?_
       refine ai [(1, ⟨_, .bool _⟩)] ?_
       iterate 3 refine ae ?_
       refine aB (congrArg D.bool ?_)
       rw [hz]; simp [lH] <;> simp_all <;> omega
      ·try simp only [au] at hc7
       iterate 6 refine ae ?_
       refine aj (v := (.int _ _)) ?_
       refine aQ ?_
       refine ae ?_
       refine ai [(1, ⟨_, .bool _⟩)] ?_
       iterate 2 refine ae ?_
       refine aB (congrArg D.bool ?_)
       rw [hz]; simp [lH] <;> simp_all <;> omega
     ·try simp only [au] at hc4
      iterate 3 refine ae ?_
      refine aQ ?_
      refine ae ?_
      refine ai [(11, ⟨_, .bool _⟩)] ?_
      refine ak (fun hc5 => ?_) (fun hc5 => ?_)
      ·try simp only [au] at hc5
       refine ae ?_
       refine BQ.other ah ?_
       refine BQ.other ah ?_
       refine BQ.out ?_
       iterate 4 refine ae ?_
       refine aj (v := (.int _ _)) ?_
       refine aQ ?_
       refine ae ?_
       refine ai [(1, ⟨_, .bool _⟩)] ?_
       iterate 2 refine ae ?_
       refine aB (congrArg D.bool ?_)
       rw [hz]; simp [lH] <;> simp_all <;> omega
      ·try simp only [au] at hc5
       refine ae ?_
       refine wp_exit ?_
       refine BQ.other ah ?_
       refine BQ.other ah ?_
       refine BQ.other ah ?_
       refine BQ.out ?_
       iterate 2 refine ae ?_
       refine ai [(1, ⟨_, .bool _⟩)] ?_
       refine ae ?_
       refine aB (congrArg D.bool ?_)
       rw [hz]; simp [lH] <;> simp_all <;> omega
def Cx (Γ : Ctx) : Prop := ∀ (c : cL), (c.v.sm) → Γ.pre 827 [cL.D c] ∧ Γ.val 827 [cL.D c] = .bool (jt c)
end Go.Abs
end
section
namespace Go.Abs
open Go
def kP : aI := { np := 1, ns := 16, res := [⟨1, none⟩], rsh := [[.a]], body := (.seq (rg [gb 7 s0, gm (cs [])] [(2, 0), (1, 1)]) (.seq (.seq (rg [gk 7 true s2, gx 827 [l0] [[.a, .a, .a, .a, .a, .a, .a]], gn (.un .not l1)] [(3, 2)]) (.cond s3 (.seq (rg [gm (cs [])] [(1, 0)]) .ret) .skip)) (.seq (rg [gf 0 s2, gd l0, gx 957 [l1] [[.a]], gm l2] [(11, 3)]) (.seq (.seq (rg [gf 2 s2, gf 0 l0, gd l1, gf 2 s2, gf 1 l3, gd l4, gf 2 s2, gf 2 l6, gd l7, gn (.bsl 1 (.int .i64 0) 3 [(0, l2), (1, l5), (2, l8)]), gl l9, gm (i6 0)] [(7, 9), (5, 10), (4, 11)]) (.block 0 (.loop (.seq (rg [gn (bQ s4 s5)] [(6, 0)]) (.seq (.cond s6 .skip (.exit 0)) (.seq (.block 1 (.seq (rg [gm s4, ga 1 s7 s4, gd l1, gm l0, gm l2] [(8, 3), (12, 4)]) (.seq (.seq (rg [gm s8, gf 1 s2, gd l1, gn (lO l0 l2)] [(9, 3)]) (.cond s9 (.exit 0) .skip)) (.seq (.seq (rg [gm s8, gn (fN l0 (i6 0))] [(10, 1)]) (.cond kF (rg [gm mV, gn (bh l0 (cs [46])), gm l1] [(11, 2)]) .skip)) (rg [gm mV, gm jV, gx 665 [l1] [[.a]], gn (bh l0 l2), gm l3] [(11, 4)]))))) (rg [gn (bh s4 (i6 1)), gm l0] [(4, 1)]))))))) (.seq (.seq (rg [gf 0 s2, gd l0, gn (bA l1 (i6 9))] [(13, 2)]) (.cond ri (.seq (.seq (rg [gf 1 s2, gd l0, gn (fN l1 (i6 0))] [(14, 2)]) (.cond vj (rg [gm mV, gn (bh l0 (cs [46])), gm l1] [(11, 2)]) .skip)) (.seq (rg [gm mV, gn (bh l0 (cs [42])), gm l1] [(1, 2)]) .ret)) .skip)) (.seq (.seq (rg [gf 2 s2, gf 3 l0, gd l1, gn (cN l2 (cs []))] [(15, 3)]) (.cond sE (rg [gm mV, gf 2 s2, gf 3 l1, gd l2, gn (bh (cs [45]) l3), gn (bh l0 l4), gm l5] [(11, 6)]) .skip)) (.seq (rg [gm mV, gm l0] [(1, 1)]) .ret))))))) }
theorem w828 {Γ : Ctx} (hm : (Γ.at 0).bN) (h665 : EM (Γ.at 0)) (h827 : Cx (Γ.at 0)) (h957 : ER (Γ.at 0)) (c : cL)  (hp0 : c.v.sm) : bo (Γ.at 0) kP.body (eC kP (.str (du c)) : Ex → List aN → St → Prop) (bF kP [cL.D c]) ⟨0, []⟩ := by
 show bo _ _ _ [⟨true, cL.D c⟩, .un, .un, .un, .un, .un, .un, .un, .un, .un, .un, .un, .un, .un, .un, .un] ⟨0, []⟩
 refine aw ?_
 refine aZ ?_
 refine ae ?_
 refine ai [(1, ⟨_, .str _⟩), (2, ⟨_, _⟩)] ?_
 iterate 2 refine ae ?_
 refine bG ?_
 refine ay (hc := h827 _ ?_) ?_; rotate_left; first | assumption | omega
 refine ct ?_
 refine ai [(3, ⟨_, .bool _⟩)] ?_
 refine ak (fun hc0 => ?_) (fun hc0 => ?_)
 ·simp only [Bool.not_eq_true'] at hc0
  iterate 3 refine ae ?_
  refine ai [(1, ⟨_, .str _⟩)] ?_
  refine ae ?_
  refine aB (congrArg D.str ?_)
  simp [du, hc0]
 ·simp only [Bool.not_eq_false'] at hc0
  obtain ⟨hv, hp1, hp2, hp3, hp4⟩ := lU hc0
  have hsl := ub c.op
  have hnl := pP hv
  iterate 3 refine ae ?_
  refine aj (v := (.int _ _)) ?_
  refine ay (hc := h957 _) ?_
  refine ae ?_
  refine ai [(11, ⟨_, .str _⟩)] ?_
  iterate 4 refine ae ?_
  refine aj (v := (.int _ _)) ?_
  iterate 2 refine ae ?_
  refine aj (v := (.int _ _)) ?_
  iterate 2 refine ae ?_
  refine aj (v := (.int _ _)) ?_
  refine dK [(.int _ _), (.int _ _), (.int _ _)] ?_
  refine x6 fun u0 => ?_; specialize u0 rfl rfl
  refine ae ?_
  refine ai [(4, ⟨_, .int _ _⟩), (5, ⟨_, .int _ _⟩), (7, ⟨_, .own _ _ _ _⟩)] ?_
  refine ij 18 ?_
  refine bz hm (ι := Nat) (fun i => [.un, .un, ⟨true, .ptr 0 7 0 0⟩, .un, ⟨true, .int .i64 (i : Nat)⟩, ⟨true, .int .i64 3⟩, .un, ⟨true, .sl 1 (c.ir.map (D.int .i64))⟩, .un, .un, .un, ⟨true, .str (cP c.op ++ dq c i)⟩, .un, .un, .un, .un]) (fun i => [(0, .buf 7 [cL.D c])]) 21 (fun i => i ≤ 3 ∧ i ≤ c.parts.toNat) (fun i => 3 - i) 0 ⟨by omega, by omega⟩ (az.to [(0, 0)] ah ah (by repeat (first | exact fE.nil | refine fE.un ?_ | refine fE.eq ah ?_ | refine fE.nl (congrArg D.str (by first | (simp only [dq, if_pos hpos, List.append_assoc]; done) | (simp only [dq, if_neg hpos, List.append_assoc, List.nil_append]; done) | simp [dq])) ah ?_ | refine fE.nl ah ah ?_)) bJ) ?_
  rintro i ⟨hi, hip⟩
  have hni := hnl i
  have hfit := wB hv i
  have hn3 : c.ir.length = 3 := rfl
  refine ae ?_
  refine aW ?_
  refine ai [(6, ⟨_, .bool _⟩)] ?_
  refine ak (fun hc1 => ?_) (fun hc1 => ?_)
  ·try simp only [au] at hc1
   refine ae ?_
   refine ax ?_ hm
   iterate 2 refine ae ?_
   first | refine aP _ ?_ | refine br ?_
   first | refine aS (v := (.int _ _)) ?_ | refine bH (v := (.int _ _)) ?_
   iterate 2 refine ae ?_
   refine ai [(8, ⟨_, .int _ _⟩), (12, ⟨_, .int _ _⟩)] ?_
   iterate 4 refine ae ?_
   refine aj (v := (.int _ _)) ?_
   refine iv ?_
   refine ai [(9, ⟨_, .bool _⟩)] ?_
   refine ak (fun hc2 => ?_) (fun hc2 => ?_)
   ·try simp only [au] at hc2
    refine ae ?_
    refine BQ.other ah ?_
    iterate 3 refine ae ?_
    obtain rfl : i = c.parts.toNat := by omega
    refine ae ?_
    refine aj (v := (.int _ _)) ?_
    refine aQ ?_
    refine ai [(13, ⟨_, .bool _⟩)] ?_
    refine ak (fun hc4 => ?_) (fun hc4 => ?_)
    ·try simp only [au] at hc4
     iterate 4 refine ae ?_
     refine aj (v := (.int _ _)) ?_
     refine bE ?_
     refine ai [(14, ⟨_, .bool _⟩)] ?_
     refine ak (fun hc5 => ?_) (fun hc5 => ?_)
     ·try simp only [au] at hc5
      iterate 2 refine ae ?_
      refine cq (hb := fun _ => by simp only [List.length_append, List.length_cons, List.length_nil]; omega) ?_
      refine ae ?_
      refine ai [(11, ⟨_, .str _⟩)] ?_
      iterate 3 refine ae ?_
      refine cq (hb := fun _ => by simp only [List.length_append, List.length_cons, List.length_nil]; omega) ?_
      refine ae ?_
      refine ai [(1, ⟨_, .str _⟩)] ?_
      refine ae ?_
      refine aB (congrArg D.str ?_)
      simp [du, ja, jn, hc0, *]
     ·try simp only [au] at hc5
      iterate 4 refine ae ?_
      refine cq (hb := fun _ => by simp only [List.length_append, List.length_cons, List.length_nil]; omega) ?_
      refine ae ?_
      refine ai [(1, ⟨_, .str _⟩)] ?_
      refine ae ?_
      refine aB (congrArg D.str ?_)
      simp [du, ja, jn, hc0, *]
    ·try simp only [au] at hc4
     iterate 5 refine ae ?_
     refine aj (v := (.str _)) ?_
     refine cn ?_
     refine ai [(15, ⟨_, .bool _⟩)] ?_
     refine ak (fun hc6 => ?_) (fun hc6 => ?_)
     ·try simp only [au] at hc6
      refine ae ?_
      have hpl := hp0.1
      iterate 3 refine ae ?_
      refine aj (v := (.str _)) ?_
      refine cq (hb := fun _ => by simp only [List.length_append, List.length_cons, List.length_nil]; omega) ?_
      refine cq (hb := fun _ => by simp only [List.length_append, List.length_cons, List.length_nil]; omega) ?_
      refine ae ?_
      refine ai [(11, ⟨_, .str _⟩)] ?_
      iterate 3 refine ae ?_
      refine ai [(1, ⟨_, .str _⟩)] ?_
      refine ae ?_
      refine aB (congrArg D.str ?_)
      simp [du, ja, jn, hc0, *]
     ·try simp only [au] at hc6
      iterate 4 refine ae ?_
      refine ai [(1, ⟨_, .str _⟩)] ?_
      refine ae ?_
      refine aB (congrArg D.str ?_)
      simp [du, ja, jn, hc0, *]
   ·try simp only [au] at hc2
    iterate 4 refine ae ?_
    refine bE ?_
    refine ai [(10, ⟨_, .bool _⟩)] ?_
    refine ak (fun hc3 => ?_) (fun hc3 => ?_)
    ·simp only [decide_eq_true_eq] at hc3
     have hpos : 0 < i := by omega
     iterate 2 refine ae ?_
     refine cq (hb := fun _ => by simp only [List.length_append, List.length_cons, List.length_nil]; omega) ?_
     refine ae ?_
     refine ai [(11, ⟨_, .str _⟩)] ?_
     iterate 3 refine ae ?_
     refine ay (hc := h665 (c.ir[i]!) ⟨hfit.1, hfit.2⟩) ?_
     have hdl := eU 4 (c.ir[i]!).toNat (by omega) (by omega)
     refine cq (hb := fun _ => by simp only [List.length_append, List.length_cons, List.length_nil]; omega) ?_
     refine ae ?_
     refine bL [(11, ⟨_, .str _⟩)] ?_
     iterate 2 refine ae ?_
     refine aF ?_
     refine ae ?_
     refine bL [(4, ⟨_, .int _ _⟩)] ?_
     refine ae ?_
     exact ⟨i + 1, ⟨by omega, by omega⟩, by omega, (az.to [(0, 0)] ah ah (by repeat (first | exact fE.nil | refine fE.un ?_ | refine fE.eq ah ?_ | refine fE.nl (congrArg D.str (by first | (simp only [dq, if_pos hpos, List.append_assoc]; done) | (simp only [dq, if_neg hpos, List.append_assoc, List.nil_append]; done) | simp [dq])) ah ?_ | refine fE.nl ah ah ?_)) bJ)⟩
    ·simp only [decide_eq_false_iff_not] at hc3
     have hpos : ¬ 0 < i := by omega
     iterate 4 refine ae ?_
     refine ay (hc := h665 (c.ir[i]!) ⟨hfit.1, hfit.2⟩) ?_
     have hdl := eU 4 (c.ir[i]!).toNat (by omega) (by omega)
     refine cq (hb := fun _ => by simp only [List.length_append, List.length_cons, List.length_nil]; omega) ?_
     refine ae ?_
     refine bL [(11, ⟨_, .str _⟩)] ?_
     iterate 2 refine ae ?_
     refine aF ?_
     refine ae ?_
     refine bL [(4, ⟨_, .int _ _⟩)] ?_
     refine ae ?_
     exact ⟨i + 1, ⟨by omega, by omega⟩, by omega, (az.to [(0, 0)] ah ah (by repeat (first | exact fE.nil | refine fE.un ?_ | refine fE.eq ah ?_ | refine fE.nl (congrArg D.str (by first | (simp only [dq, if_pos hpos, List.append_assoc]; done) | (simp only [dq, if_neg hpos, List.append_assoc, List.nil_append]; done) | simp [dq])) ah ?_ | refine fE.nl ah ah ?_)) bJ)⟩
  ·try simp only [au] at hc1
   iterate 4 refine ae ?_
   obtain rfl : i = c.parts.toNat := by omega
   refine ae ?_
   refine aj (v := (.int _ _)) ?_
   refine aQ ?_
   refine ai [(13, ⟨_, .bool _⟩)] ?_
   refine ak (fun hc4 => ?_) (fun hc4 => ?_)
   ·try simp only [au] at hc4
    iterate 4 refine ae ?_
    refine aj (v := (.int _ _)) ?_
    refine bE ?_
    refine ai [(14, ⟨_, .bool _⟩)] ?_
    refine ak (fun hc5 => ?_) (fun hc5 => ?_)
    ·try simp only [au] at hc5
     iterate 2 refine ae ?_
     refine cq (hb := fun _ => by simp only [List.length_append, List.length_cons, List.length_nil]; omega) ?_
     refine ae ?_
     refine ai [(11, ⟨_, .str _⟩)] ?_
     iterate 3 refine ae ?_
     refine cq (hb := fun _ => by simp only [List.length_append, List.length_cons, List.length_nil]; omega) ?_
     refine ae ?_
     refine ai [(1, ⟨_, .str _⟩)] ?_
     refine ae ?_
     refine aB (congrArg D.str ?_)
     simp [du, ja, jn, hc0, *]
    ·try simp only [au] at hc5
     iterate 4 refine ae ?_
     refine cq (hb := fun _ => by simp only [List.length_append, List.length_cons, List.length_nil]; omega) ?_
     refine ae ?_
     refine ai [(1, ⟨_, .str _⟩)] ?_
     refine ae ?_
     refine aB (congrArg D.str ?_)
     simp [du, ja, jn, hc0, *]
   ·try simp only [au] at hc4
    iterate 5 refine ae ?_
    refine aj (v := (.str _)) ?_
    refine cn ?_
    refine ai [(15, ⟨_, .bool _⟩)] ?_
    refine ak (fun hc6 => ?_) (fun hc6 => ?_)
    ·try simp only [au] at hc6
     refine ae ?_
     have hpl := hp0.1
     iterate 3 refine ae ?_
     refine aj (v := (.str _)) ?_
     refine cq (hb := fun _ => by simp only [List.length_append, List.length_cons, List.length_nil]; omega) ?_
     refine cq (hb := fun _ => by simp only [List.length_append, List.length_cons, List.length_nil]; omega) ?_
     refine ae ?_
     refine ai [(11, ⟨_, .str _⟩)] ?_
     iterate 3 refine ae ?_
     refine ai [(1, ⟨_, .str _⟩)] ?_
     refine ae ?_
     refine aB (congrArg D.str ?_)
     simp [du, ja, jn, hc0, *]
    ·try simp only [au] at hc6
     iterate 4 refine ae ?_
     refine ai [(1, ⟨_, .str _⟩)] ?_
     refine ae ?_
     refine aB (congrArg D.str ?_)
     simp [du, ja, jn, hc0, *]
def EN (Γ : Ctx) : Prop := ∀ (c : cL), (c.v.sm) → Γ.pre 828 [cL.D c] ∧ Γ.val 828 [cL.D c] = .str (du c)
end Go.Abs
end
section
namespace Go.Abs
open Go
end Go.Abs
end
section
namespace Go.Abs
open Go
end Go.Abs
end
section
namespace Go.Abs
open Go
end Go.Abs
end
section
namespace Go.Abs
open Go
end Go.Abs
end
section
namespace Go.Abs
open Go
end Go.Abs
end
section
namespace Go.Abs
open Go
def mF : aI := { np := 1, ns := 33, res := [⟨1, some (7, true)⟩, ⟨2, none⟩], rsh := [[.a, .a, .a, .a, .a, .a, .a], [.a]], body := (.seq (rg [gb 7 (.c (.agg [.int .i64 0, .int .i64 0, .int .i64 0, .int .i64 0, .int .i64 0, .str [], .str []])), gm (cb false)] [(1, 0), (2, 1)]) (.seq (rg [gn (.build [.int .i64 0, .int .i64 0, .int .i64 0, .int .i64 0, .int .i64 0, .str [], .str []] [(0, 1, (i6 9))]), gb 7 (.c (.agg [.int .i64 0, .int .i64 0, .int .i64 0, .int .i64 0, .int .i64 0, .str [], .str []])), gt 7 l1 l0] [(9, 1)]) (.seq (rg [gm s0, gm l0] [(10, 1)]) (.seq (.seq (rg [gn (.bsl 1 (.int .i64 0) 8 [(0, (i6 2)), (1, (i6 4)), (2, (i6 6)), (3, (i6 1)), (4, (i6 3)), (5, (i6 5)), (6, (i6 7)), (7, (i6 8))]), gl l0, gm (i6 0)] [(6, 0), (4, 1), (3, 2)]) (.block 0 (.loop (.seq (rg [gn (bQ s3 s4)] [(5, 0)]) (.seq (.cond s5 .skip (.exit 0)) (.seq (.block 1 (.seq (rg [ga 1 s6 s3, gd l0, gm l1] [(7, 2)]) (.seq (rg [gm s0, gm s7, gx 957 [l1] [[.a]], gx 956 [l0, l2] [[.a], [.a]]] [(8, 3)]) (.cond s8 (.seq (rg [gm s7, gf 0 s9, gt 1 l1 l0] []) (.seq (rg [gm s0, gm s7, gx 957 [l1] [[.a]], gn (.lenS l2), gn (.slS l0 (some l3) none), gm l4] [(10, 5)]) (.exit 0))) .skip)))) (rg [gn (bh s3 (i6 1)), gm l0] [(3, 1)]))))))) (.seq (.seq (rg [gm kF, gn (.lenS l0), gm (i6 0)] [(12, 1), (11, 2)]) (.block 2 (.loop (.seq (rg [gn (bQ mV jV)] [(13, 0)]) (.seq (.cond ri .skip (.exit 2)) (.seq (.block 3 (.seq (rg [gm mV, gm l0] [(14, 1)]) (.seq (rg [gm kF, gm vj, gn (.ixS l0 l1), gn (bA l2 (.c (.int .u8 45)))] [(15, 3)]) (.cond sE (.seq (rg [gm kF, gm vj, gn (bh l1 (i6 1)), gn (.slS l0 (some l2) none), gf 2 s9, gf 3 l4, gt 1 l5 l3] []) (.seq (rg [gm kF, gm vj, gn (.slS l0 none (some l1)), gm l2] [(10, 3)]) (.exit 2))) .skip)))) (rg [gn (bh mV (i6 1)), gm l0] [(11, 1)]))))))) (.seq (rg [gm kF, gx 533 [l0, (.c (.int .u8 46))] [[.a], [.a]], gm l1] [(17, 2)]) (.seq (.seq (rg [gf 0 s9, gd l0, gn (bA l1 (i6 9))] [(16, 2)]) (.cond y6 (.seq (.seq (rg [gm wS, gm wS, gl l1, gn (lP l2 (i6 1)), ga 1 l0 l3, gd l4, gn (cN l5 (cs [42]))] [(18, 6)]) (.cond Ac (.seq (rg [gn (.build [.int .i64 0, .int .i64 0, .int .i64 0, .int .i64 0, .int .i64 0, .str [], .str []] []), gt 7 s1 l0, gm (cb false)] [(2, 2)]) .ret) .skip)) (rg [gm wS, gm wS, gl l1, gn (lP l2 (i6 1)), gn (.slA 1 l0 none (some l3)), gm l4] [(17, 5)])) .skip)) (.seq (.seq (rg [gm wS, gl l0, gn (fN l1 (i6 3))] [(19, 2)]) (.cond FH (.seq (rg [gn (.build [.int .i64 0, .int .i64 0, .int .i64 0, .int .i64 0, .int .i64 0, .str [], .str []] []), gt 7 s1 l0, gm (cb false)] [(2, 2)]) .ret) .skip)) (.seq (rg [gm wS, gl l0, gf 1 s9, gt 1 l2 l1] []) (.seq (.seq (rg [gm wS, gl l0, gm (i6 0)] [(23, 0), (21, 1), (20, 2)]) (.block 4 (.loop (.seq (rg [gn (bQ Cm s21)] [(22, 0)]) (.seq (.cond s22 .skip (.exit 4)) (.seq (.block 5 (.seq (rg [gm Cm, ga 1 s23 Cm, gd l1, gm l0, gm l2] [(27, 3), (24, 4)]) (.seq (rg [gm F5, gx 658 [l0] [[.a]], gm l1, ge l2 0, ge l2 1, gm l3, gm l4] [(30, 5), (25, 6)]) (.seq (.seq (rg [gm F6, gn (.un .not l0)] [(26, 1)]) (.cond H3 (.seq (rg [gn (.build [.int .i64 0, .int .i64 0, .int .i64 0, .int .i64 0, .int .i64 0, .str [], .str []] []), gt 7 s1 l0, gm (cb false)] [(2, 2)]) .ret) .skip)) (.seq (rg [gm s27] [(28, 0)]) (.block 6 (.seq (rg [gn (bA s28 (i6 0)), gm l0] [(29, 1)]) (.cond s29 (rg [gm Ep, gf 2 s9, gf 0 l1, gt 1 l2 l0] []) (.seq (rg [gn (bA s28 (i6 1)), gm l0] [(31, 1)]) (.cond s31 (rg [gm Ep, gf 2 s9, gf 1 l1, gt 1 l2 l0] []) (rg [gm Ep, gf 2 s9, gf 2 l1, gt 1 l2 l0] []))))))))))) (rg [gn (bh Cm (i6 1)), gm l0] [(20, 1)]))))))) (.seq (.seq (rg [gk 7 true s9, gx 827 [l0] [[.a, .a, .a, .a, .a, .a, .a]], gn (.un .not l1), gm l2, ⟨.ld 7 true s9, some (3, false)⟩, ⟨.call 828 [l4] [[.a, .a, .a, .a, .a, .a, .a]], some (3, false)⟩, ⟨.mv s0, some (3, false)⟩, ⟨.bin .neq l5 l6, some (3, false)⟩, gn (.pick l3 (cb true) l7)] [(32, 8)]) (.cond s32 (.seq (rg [gn (.build [.int .i64 0, .int .i64 0, .int .i64 0, .int .i64 0, .int .i64 0, .str [], .str []] []), gt 7 s1 l0, gm (cb false)] [(2, 2)]) .ret) .skip)) (.seq (rg [gk 7 true s9, gt 7 s1 l0, gm (cb true)] [(2, 2)]) .ret)))))))))))) }
theorem w819 {Γ : Ctx} (hm : (Γ.at 0).bN) (h533 : Ax (Γ.at 0)) (h658 : Cv (Γ.at 0)) (h827 : Cx (Γ.at 0)) (h828 : EN (Γ.at 0)) (h956 : G0 (Γ.at 0)) (h957 : ER (Γ.at 0)) (s : aq)  (hp0 : s.length ≤ 1048576) : bo (Γ.at 0) mF.body (eC mF (.tup [cL.D ((dA s).getD dk), .bool (dA s).isSome]) : Ex → List aN → St → Prop) (bF mF [.str s]) ⟨0, []⟩ := by
 show bo _ _ _ (⟨true, .str s⟩ :: .un :: .un :: .un :: .un :: .un :: .un :: .un :: .un :: .un :: .un :: .un :: .un :: .un :: .un :: .un :: .un :: .un :: .un :: .un :: .un :: .un :: .un :: .un :: .un :: .un :: .un :: .un :: .un :: .un :: .un :: .un :: .un :: []) ⟨0, []⟩
 have hol := z7 s
 refine aw ?_
 refine aZ ?_
 refine ae ?_
 refine ai [(1, ⟨_, _⟩), (2, ⟨_, .bool _⟩)] ?_
 refine ae ?_
 refine b6 (cL.D ⟨9, 0, iy⟩) ?_
 refine aZ ?_
 refine aM (cL.D ⟨9, 0, iy⟩) (he := by exact rfl) ?_
 refine ai [(9, ⟨_, _⟩)] ?_
 iterate 3 refine ae ?_
 refine ai [(10, ⟨_, .str _⟩)] ?_
 iterate 2 refine ae ?_
 refine dK [(.int _ _), (.int _ _), (.int _ _), (.int _ _), (.int _ _), (.int _ _), (.int _ _), (.int _ _)] ?_
 refine x6 fun u0 => ?_; specialize u0 rfl rfl
 refine ae ?_
 refine ai [(3, ⟨_, .int _ _⟩), (4, ⟨_, .int _ _⟩), (6, ⟨_, .own _ _ _ _⟩)] ?_
 refine yl hm (ι := Unit) (fun _ => (⟨true, .str s⟩ :: ⟨true, .ptr 0 7 0 0⟩ :: .un :: .un :: .un :: .un :: .un :: .un :: .un :: ⟨true, .ptr 3 7 0 0⟩ :: ⟨true, .str (cj s).2⟩ :: .un :: .un :: .un :: .un :: .un :: .un :: .un :: .un :: .un :: .un :: .un :: .un :: .un :: .un :: .un :: .un :: .un :: .un :: .un :: .un :: .un :: .un :: [])) (fun _ => [(0, .buf 7 [cL.D dk]), (3, .buf 7 [cL.D ⟨(cj s).1, 0, iy⟩])]) 40 (fun _ => True) ?_ ?_
 ·refine ij 7 ?_
  refine na hm (ι := Nat) (fun i => (⟨true, .str s⟩ :: ⟨true, .ptr 0 7 0 0⟩ :: .un :: ⟨true, .int .i64 (i : Nat)⟩ :: ⟨true, .int .i64 8⟩ :: .un :: ⟨true, .sl 1 (opsL.map (D.int .i64))⟩ :: .un :: .un :: ⟨true, .ptr 3 7 0 0⟩ :: ⟨true, .str s⟩ :: .un :: .un :: .un :: .un :: .un :: .un :: .un :: .un :: .un :: .un :: .un :: .un :: .un :: .un :: .un :: .un :: .un :: .un :: .un :: .un :: .un :: .un :: [])) (fun i => [(0, .buf 7 [cL.D dk]), (3, .buf 7 [cL.D ⟨9, 0, iy⟩])]) 10 (fun i => i ≤ 8 ∧ nX s 0 = nX s i) (fun i => 8 - i) 0 ⟨by omega, rfl⟩ (az.to [(0, 0), (3, 3)] ah ah aX bJ) ?_
  rintro i ⟨hi, hr⟩
  have hn8 : opsL.length = 8 := rfl
  refine ae ?_
  refine aW ?_
  refine ai [(5, ⟨_, .bool _⟩)] ?_
  refine ak (fun hc0 => ?_) (fun hc0 => ?_)
  ·try simp only [au] at hc0
   refine ae ?_
   refine ax ?_ hm
   refine ae ?_
   first | refine aP _ ?_ | refine br ?_
   first | refine aS (v := (.int _ _)) ?_ | refine bH (v := (.int _ _)) ?_
   refine ae ?_
   refine ai [(7, ⟨_, .int _ _⟩)] ?_
   iterate 3 refine ae ?_
   refine ay (hc := h957 opsL[i]!) ?_
   refine ay (hc := h956 s (cP opsL[i]!)) ?_
   refine ai [(8, ⟨_, .bool _⟩)] ?_
   refine wp_cond (fun hc1 => ?_) (fun hc1 => ?_)
   ·have hbl : (cP opsL[i]!).length ≤ s.length := by simp only [py, Bool.and_eq_true, decide_eq_true_eq] at hc1; exact hc1.1
    have hro : cj s = (opsL[i]!, s.drop (cP opsL[i]!).length) := by simp only [cj, hr, Dr (show i < 8 by omega) hc1]
    iterate 3 refine ae ?_
    refine aM (cL.D ⟨opsL[i]!, 0, iy⟩) (he := by exact rfl) ?_
    refine ai [] ?_
    iterate 3 refine ae ?_
    refine ay (hc := h957 opsL[i]!) ?_
    refine cv fun u1 => ?_; specialize u1 rfl rfl
    refine oT (cP opsL[i]!).length (hb := fun _ => hbl) ?_
    refine ae ?_
    refine ai [(10, ⟨_, .str _⟩)] ?_
    refine wp_exit ?_
    refine BQ.other ah ?_
    refine oe.out ?_
    refine CQ.normal ?_
    simp only [hro]
    exact ⟨(), trivial, (az.to [(0, 0), (3, 3)] ah ah aX bJ)⟩
   ·skip
    iterate 3 refine ae ?_
    refine aF ?_
    refine ae ?_
    refine bL [(3, ⟨_, .int _ _⟩)] ?_
    refine oe.normal ?_
    exact ⟨i + 1, ⟨by omega, by rw [hr, Ds (by omega) hc1]⟩, by omega, (az.to [(0, 0), (3, 3)] ah ah aX bJ)⟩
  ·try simp only [au] at hc0
   refine ae ?_
   refine oe.out ?_
   refine CQ.normal ?_
   have hro : cj s = (9, s) := by simp only [cj, hr, Br (show 8 ≤ i by omega)]
   simp only [hro]
   exact ⟨(), trivial, (az.to [(0, 0), (3, 3)] ah ah aX bJ)⟩
 ·rintro _ -
  iterate 3 refine ae ?_
  refine cv fun u2 => ?_; specialize u2 rfl rfl
  refine ae ?_
  refine ai [(11, ⟨_, .int _ _⟩), (12, ⟨_, .int _ _⟩)] ?_
  refine yl hm (ι := Unit) (fun _ => (⟨true, .str s⟩ :: ⟨true, .ptr 0 7 0 0⟩ :: .un :: .un :: .un :: .un :: .un :: .un :: .un :: ⟨true, .ptr 3 7 0 0⟩ :: ⟨true, .str (cU s).1⟩ :: .un :: .un :: .un :: .un :: .un :: .un :: .un :: .un :: .un :: .un :: .un :: .un :: .un :: .un :: .un :: .un :: .un :: .un :: .un :: .un :: .un :: .un :: [])) (fun _ => [(0, .buf 7 [cL.D dk]), (3, .buf 7 [cL.D ⟨(cj s).1, 0, { iy with pre := (cU s).2 }⟩])]) 60 (fun _ => True) ?_ ?_
  ·refine na hm (ι := Nat) (fun i => (⟨true, .str s⟩ :: ⟨true, .ptr 0 7 0 0⟩ :: .un :: .un :: .un :: .un :: .un :: .un :: .un :: ⟨true, .ptr 3 7 0 0⟩ :: ⟨true, .str (cj s).2⟩ :: ⟨true, .int .i64 (i : Nat)⟩ :: ⟨true, .int .i64 ((cj s).2.length : Nat)⟩ :: .un :: .un :: .un :: .un :: .un :: .un :: .un :: .un :: .un :: .un :: .un :: .un :: .un :: .un :: .un :: .un :: .un :: .un :: .un :: .un :: [])) (fun i => [(0, .buf 7 [cL.D dk]), (3, .buf 7 [cL.D ⟨(cj s).1, 0, iy⟩])]) 43 (fun i => i ≤ (cj s).2.length ∧ cU s = fu (cj s).2 i) (fun i => (cj s).2.length - i) 0 ⟨by omega, rfl⟩ (az.to [(0, 0), (3, 3)] ah ah aX bJ) ?_
   rintro i ⟨hi, hr⟩
   refine ae ?_
   refine aW ?_
   refine ai [(13, ⟨_, .bool _⟩)] ?_
   refine ak (fun hc2 => ?_) (fun hc2 => ?_)
   ·try simp only [au] at hc2
    refine ae ?_
    refine ax ?_ hm
    iterate 3 refine ae ?_
    refine ai [(14, ⟨_, .int _ _⟩)] ?_
    iterate 3 refine ae ?_
    first | refine sw _ ?_ | refine sx ?_
    refine aQ ?_
    refine ai [(15, ⟨_, .bool _⟩)] ?_
    refine wp_cond (fun hc3 => ?_) (fun hc3 => ?_)
    ·simp only [decide_eq_true_eq] at hc3
     have hpr : cU s = ((cj s).2.take i, (cj s).2.drop (i + 1)) := by rw [hr, DA (by omega) hc3]
     iterate 3 refine ae ?_
     refine aF ?_
     refine oT (i + 1) ?_
     iterate 2 refine ae ?_
     refine aM (cL.D ⟨(cj s).1, 0, { iy with pre := (cj s).2.drop (i + 1) }⟩) (he := by exact rfl) ?_
     refine ai [] ?_
     iterate 3 refine ae ?_
     refine sy _ ?_
     refine ae ?_
     refine ai [(10, ⟨_, .str _⟩)] ?_
     refine wp_exit ?_
     refine BQ.other ah ?_
     refine oe.out ?_
     refine CQ.normal ?_
     simp only [hpr]
     exact ⟨(), trivial, (az.to [(0, 0), (3, 3)] ah ah aX bJ)⟩
    ·try simp only [au] at hc3
     iterate 3 refine ae ?_
     refine aF ?_
     refine ae ?_
     refine bL [(11, ⟨_, .int _ _⟩)] ?_
     refine oe.normal ?_
     exact ⟨i + 1, ⟨by omega, by rw [hr, DB (by omega) hc3]⟩, by omega, (az.to [(0, 0), (3, 3)] ah ah aX bJ)⟩
   ·try simp only [au] at hc2
    refine ae ?_
    refine oe.out ?_
    refine CQ.normal ?_
    have hpr : cU s = ((cj s).2, []) := by rw [hr, BI (by omega)]
    simp only [hpr]
    exact ⟨(), trivial, (az.to [(0, 0), (3, 3)] ah ah aX bJ)⟩
  ·rintro _ -
   have hpl : (cU s).1.length ≤ s.length ∧ (cU s).2.length ≤ s.length := by
    have := wI (cj s).2
    exact ⟨by show (fu _ 0).1.length ≤ _; omega, by show (fu _ 0).2.length ≤ _; omega⟩
   have hlp : 1 ≤ (ar (cU s).1 46).length := fB _ _ _
   have hln := cY (cU s).1 46
   iterate 2 refine ae ?_
   refine ay (hc := h533 (cU s).1 46 (by omega)) ?_
   refine ae ?_
   refine ai [(17, ⟨_, .sl _ _⟩)] ?_
   iterate 3 refine ae ?_
   refine aj (v := (.int _ _)) ?_
   refine aQ ?_
   refine ai [(16, ⟨_, .bool _⟩)] ?_
   refine yl hm (ι := Unit) (fun _ => (⟨true, .str s⟩ :: ⟨true, .ptr 0 7 0 0⟩ :: .un :: .un :: .un :: .un :: .un :: .un :: .un :: ⟨true, .ptr 3 7 0 0⟩ :: .un :: .un :: .un :: .un :: .un :: .un :: .un :: ⟨true, .sl 1 ((cK s).map D.str)⟩ :: .un :: .un :: .un :: .un :: .un :: .un :: .un :: .un :: .un :: .un :: .un :: .un :: .un :: .un :: .un :: [])) (fun _ => [(0, .buf 7 [cL.D dk]), (3, .buf 7 [cL.D ⟨(cj s).1, 0, { iy with pre := (cU s).2 }⟩])]) 80 (fun _ => jm s) ?_ ?_
   ·refine wp_cond (fun hc4 => ?_) (fun hc4 => ?_)
    ·try simp only [au] at hc4
     iterate 4 refine ae ?_
     refine aC fun u3 => ?_; specialize u3 rfl rfl
     refine cA ?_
     refine aP ((ar (cU s).1 46).length - 1) (hj := fun _ => by omega) (hb := fun _ => by omega) ?_
     first | refine aS (v := (.str _)) ?_ | refine bH (v := (.str _)) ?_
     refine cn ?_
     refine ai [(18, ⟨_, .bool _⟩)] ?_
     refine ak (fun hc5 => ?_) (fun hc5 => ?_)
     ·simp only [Bool.not_eq_true', decide_eq_false_iff_not] at hc5
      have hno := fW (s := s) (fun h => hc5 (h.1 hc4))
      iterate 2 refine ae ?_
      refine b6 (cL.D dk) ?_
      refine aM _ ?_
      refine ae ?_
      refine ai [(2, ⟨_, .bool _⟩)] ?_
      refine ae ?_
      refine CQ.ret ?_
      refine aB (aY ?_ (congrArg D.bool ?_))
      all_goals (rw [hno]; rfl)
     ·simp only [Bool.not_eq_false', decide_eq_true_eq] at hc5
      have hst : jm s := fun _ => hc5
      have hrl : cK s = (ar (cU s).1 46).take ((ar (cU s).1 46).length - 1) := if_pos hc4
      iterate 4 refine ae ?_
      refine aC fun u4 => ?_; specialize u4 rfl rfl
      refine cA ?_
      refine wK ((ar (cU s).1 46).length - 1) (hj := fun _ => by omega) (hb := fun _ => by omega) ?_
      refine ae ?_
      refine bL [(17, ⟨_, .sl _ _⟩)] ?_
      refine CQ.normal ?_
      simp only [hrl]
      exact ⟨(), hst, (az.to [(0, 0), (3, 3)] ah ah aX bJ)⟩
    ·simp only [decide_eq_false_iff_not] at hc4
     have hst : jm s := fun h => absurd h hc4
     have hrl : cK s = (ar (cU s).1 46) := if_neg hc4
     refine ae ?_
     refine CQ.normal ?_
     simp only [hrl]
     exact ⟨(), hst, (az.to [(0, 0), (3, 3)] ah ah aX bJ)⟩
   ·rintro _ hst
    iterate 3 refine ae ?_
    refine aC fun u5 => ?_; specialize u5 rfl rfl
    refine bE ?_
    refine ai [(19, ⟨_, .bool _⟩)] ?_
    refine ak (fun hc6 => ?_) (fun hc6 => ?_)
    ·simp only [decide_eq_true_eq] at hc6
     have hno := fW (s := s) (fun h => by have := h.2.1; simp only [fq, Bool.and_eq_true, decide_eq_true_eq] at this; omega)
     iterate 2 refine ae ?_
     refine b6 (cL.D dk) ?_
     refine aM _ ?_
     refine ae ?_
     refine ai [(2, ⟨_, .bool _⟩)] ?_
     refine ae ?_
     refine aB (aY ?_ (congrArg D.bool ?_))
     all_goals (rw [hno]; rfl)
    ·try simp only [au] at hc6
     iterate 3 refine ae ?_
     refine aC fun u6 => ?_; specialize u6 rfl rfl
     refine ae ?_
     refine aM (cL.D ⟨(cj s).1, ((cK s).length : Nat), { iy with pre := (cU s).2 }⟩) (he := by exact rfl) ?_
     refine ai [] ?_
     iterate 3 refine ae ?_
     refine aC fun u7 => ?_; specialize u7 rfl rfl
     refine ae ?_
     refine ai [(20, ⟨_, .int _ _⟩), (21, ⟨_, .int _ _⟩), (23, ⟨_, .sl _ _⟩)] ?_
     have hb : fq (cK s) = bO (fun i => gA (cK s)[i]!) 0 (cK s).length := by simp only [fq]; rw [decide_eq_true (by omega)]; rfl
     refine bz hm (ι := Nat) (fun i => (⟨true, .str s⟩ :: ⟨true, .ptr 0 7 0 0⟩ :: .un :: .un :: .un :: .un :: .un :: .un :: .un :: ⟨true, .ptr 3 7 0 0⟩ :: .un :: .un :: .un :: .un :: .un :: .un :: .un :: .un :: .un :: .un :: ⟨true, .int .i64 (i : Nat)⟩ :: ⟨true, .int .i64 ((cK s).length : Nat)⟩ :: .un :: ⟨true, .sl 1 ((cK s).map D.str)⟩ :: .un :: .un :: .un :: .un :: .un :: .un :: .un :: .un :: .un :: [])) (fun i => [(0, .buf 7 [cL.D dk]), (3, .buf 7 [cL.D ⟨(cj s).1, ((cK s).length : Nat), { yR (cK s) i with pre := (cU s).2 }⟩])]) 90 (fun i => i ≤ (cK s).length ∧ fq (cK s) = bO (fun i => gA (cK s)[i]!) i (cK s).length) (fun i => (cK s).length - i) 0 ⟨by omega, hb⟩ (az.to [(0, 0), (3, 3)] ah ah aX bJ) ?_
     rintro i ⟨hi, hr⟩
     refine ae ?_
     refine aW ?_
     refine ai [(22, ⟨_, .bool _⟩)] ?_
     refine ak (fun hc7 => ?_) (fun hc7 => ?_)
     ·try simp only [au] at hc7
      refine ae ?_
      refine ax ?_ hm
      iterate 2 refine ae ?_
      first | refine aP _ ?_ | refine br ?_
      first | refine aS (v := (.str _)) ?_ | refine bH (v := (.str _)) ?_
      iterate 2 refine ae ?_
      refine ai [(24, ⟨_, .str _⟩), (27, ⟨_, .int _ _⟩)] ?_
      iterate 2 refine ae ?_
      refine ay (hc := h658 (cK s)[i]!) ?_
      refine ae ?_
      refine bg (.int _ _) ?_
      refine bg (.bool _) ?_
      iterate 2 refine ae ?_
      refine ai [(25, ⟨_, .bool _⟩), (30, ⟨_, .int _ _⟩)] ?_
      iterate 3 refine ae ?_
      refine ct ?_
      refine ai [(26, ⟨_, .bool _⟩)] ?_
      refine ak (fun hc8 => ?_) (fun hc8 => ?_)
      ·simp only [Bool.not_eq_true'] at hc8
       have hno := fW (s := s) (fun h => by have := h.2.1; rw [hr, aD (by omega), hc8] at this; cases this)
       iterate 2 refine ae ?_
       refine b6 (cL.D dk) ?_
       refine aM _ ?_
       refine ae ?_
       refine ai [(2, ⟨_, .bool _⟩)] ?_
       iterate 3 refine ae ?_
       refine aB (aY ?_ (congrArg D.bool ?_))
       all_goals (rw [hno]; rfl)
      ·simp only [Bool.not_eq_false'] at hc8
       iterate 3 refine ae ?_
       refine ai [(28, ⟨_, .int _ _⟩)] ?_
       refine cW ?_ hm
       refine ae ?_
       refine aQ ?_
       refine ae ?_
       refine ai [(29, ⟨_, .bool _⟩)] ?_
       refine wp_cond (fun hc9 => ?_) (fun hc9 => ?_)
       ·simp only [decide_eq_true_eq] at hc9
        have hi0 : i = 0 := by omega
        iterate 4 refine ae ?_
        refine aM (cL.D ⟨(cj s).1, ((cK s).length : Nat), { yR (cK s) (i + 1) with pre := (cU s).2 }⟩) (he := by subst hi0; exact rfl) ?_
        refine bL [] ?_
        refine fK.normal ?_
        iterate 2 refine ae ?_
        refine aF ?_
        refine ae ?_
        refine bL [(20, ⟨_, .int _ _⟩)] ?_
        refine ae ?_
        exact ⟨i + 1, ⟨by omega, by rw [hr, aD (by omega), hc8]; rfl⟩, by omega, (az.to [(0, 0), (3, 3)] ah ah aX bJ)⟩
       ·try simp only [au] at hc9
        refine ae ?_
        refine aQ ?_
        refine ae ?_
        refine ai [(31, ⟨_, .bool _⟩)] ?_
        refine wp_cond (fun hc10 => ?_) (fun hc10 => ?_)
        ·simp only [decide_eq_true_eq] at hc10
         have hi0 : i = 1 := by omega
         iterate 4 refine ae ?_
         refine aM (cL.D ⟨(cj s).1, ((cK s).length : Nat), { yR (cK s) (i + 1) with pre := (cU s).2 }⟩) (he := by subst hi0; exact rfl) ?_
         refine bL [] ?_
         refine fK.normal ?_
         iterate 2 refine ae ?_
         refine aF ?_
         refine ae ?_
         refine bL [(20, ⟨_, .int _ _⟩)] ?_
         refine ae ?_
         exact ⟨i + 1, ⟨by omega, by rw [hr, aD (by omega), hc8]; rfl⟩, by omega, (az.to [(0, 0), (3, 3)] ah ah aX bJ)⟩
        ·simp only [decide_eq_false_iff_not] at hc10
         have hi0 : i = 2 := by omega
         iterate 4 refine ae ?_
         refine aM (cL.D ⟨(cj s).1, ((cK s).length : Nat), { yR (cK s) (i + 1) with pre := (cU s).2 }⟩) (he := by subst hi0; exact rfl) ?_
         refine bL [] ?_
         refine fK.normal ?_
         iterate 2 refine ae ?_
         refine aF ?_
         refine ae ?_
         refine bL [(20, ⟨_, .int _ _⟩)] ?_
         refine ae ?_
         exact ⟨i + 1, ⟨by omega, by rw [hr, aD (by omega), hc8]; rfl⟩, by omega, (az.to [(0, 0), (3, 3)] ah ah aX bJ)⟩
     ·try simp only [au] at hc7
      iterate 4 refine ae ?_
      obtain rfl : i = (cK s).length := by omega
      have hok : fq (cK s) = true := by rw [hr, bD (by omega)]
      have hsm : (cQ s).v.sm := ⟨by show (cU s).2.length ≤ _; omega, by show ([] : aq).length ≤ _; simp⟩
      refine bG (d := cL.D (cQ s)) ?_
      refine ay (hc := h827 (cQ s) hsm) ?_
      refine ct ?_
      refine ae ?_
      refine bG (d := cL.D (cQ s)) ?_
      refine jN (hc := fun _ => h828 (cQ s) hsm) ?_
      refine ae ?_
      refine cn ?_
      refine bY ?_
      refine ai [(32, ⟨_, .bool _⟩)] ?_
      refine ak (fun hc11 => ?_) (fun hc11 => ?_)
      ·simp only [Bool.or_eq_true, Bool.not_eq_true', decide_eq_false_iff_not] at hc11
       have hno := fW (s := s) (fun h => by rcases hc11 with h1 | h1; rw [h.2.2.1] at h1; cases h1; exact h1 h.2.2.2)
       iterate 2 refine ae ?_
       refine b6 (cL.D dk) ?_
       refine aM _ ?_
       refine ae ?_
       refine ai [(2, ⟨_, .bool _⟩)] ?_
       refine ae ?_
       refine aB (aY ?_ (congrArg D.bool ?_))
       all_goals (rw [hno]; rfl)
      ·simp only [Bool.or_eq_false_iff, Bool.not_eq_false', decide_eq_true_eq] at hc11
       have hyes : dA s = some (cQ s) := by unfold dA; rw [if_pos ⟨hst, hok, hc11⟩]
       iterate 2 refine ae ?_
       refine bG (d := cL.D (cQ s)) ?_
       refine aM _ ?_
       refine ae ?_
       refine ai [(2, ⟨_, .bool _⟩)] ?_
       refine ae ?_
       refine aB (aY ?_ (congrArg D.bool ?_))
       all_goals (rw [hyes]; rfl)
def GZ (Γ : Ctx) : Prop := ∀ (s : aq), (s.length ≤ 1048576) → Γ.pre 819 [.str s] ∧ Γ.val 819 [.str s] = .tup [cL.D ((dA s).getD dk), .bool (dA s).isSome]
end Go.Abs
end
section
namespace Go.Abs
open Go
def kO : aI := { np := 1, ns := 9, res := [⟨1, some (7, true)⟩, ⟨2, none⟩], rsh := [[.a, .a, .a, .a, .a, .a, .a], [.a]], body := (.seq (rg [gb 7 (.c (.agg [.int .i64 0, .int .i64 0, .int .i64 0, .int .i64 0, .int .i64 0, .str [], .str []])), gm (i6 0)] [(1, 0), (2, 1)]) (.seq (.seq (rg [gm s0, gx 819 [l0] [[.a]], gm l1, ge l2 0, ge l2 1, gb 7 (.c (.agg [.int .i64 0, .int .i64 0, .int .i64 0, .int .i64 0, .int .i64 0, .str [], .str []])), gt 7 l5 l3, gm l4] [(5, 5), (3, 7)]) (.seq (rg [gm s3] [(4, 0)]) (.cond s4 (.seq (rg [gk 7 true s5, gt 7 s1 l0, gm (i6 0)] [(2, 2)]) .ret) .skip))) (.seq (.seq (rg [gm s0, gn (bh (cs [94]) l0), gx 819 [l1] [[.a]], gm l2, ge l3 0, ge l3 1, gb 7 (.c (.agg [.int .i64 0, .int .i64 0, .int .i64 0, .int .i64 0, .int .i64 0, .str [], .str []])), gt 7 l6 l4, gm l5] [(8, 6), (6, 8)]) (.seq (rg [gm s6] [(7, 0)]) (.cond s7 (.seq (rg [gk 7 true s8, gt 7 s1 l0, gm (i6 0)] [(2, 2)]) .ret) .skip))) (.seq (rg [gn (.build [.int .i64 0, .int .i64 0, .int .i64 0, .int .i64 0, .int .i64 0, .str [], .str []] []), gt 7 s1 l0, gm (i6 6)] [(2, 2)]) .ret)))) }
theorem w682 {Γ : Ctx} (hm : (Γ.at 0).bN) (h819 : GZ (Γ.at 0)) (s : aq)  (hp0 : s.length ≤ 1048575) : bo (Γ.at 0) kO.body (eC kO (.tup [cL.D ((gD s).getD dk), .int .i64 (if (gD s).isSome = true then 0 else 6)]) : Ex → List aN → St → Prop) (bF kO [.str s]) ⟨0, []⟩ := by
 show bo _ _ _ [⟨true, .str s⟩, .un, .un, .un, .un, .un, .un, .un, .un] ⟨0, []⟩
 refine aw ?_
 refine aZ ?_
 refine ae ?_
 refine ai [(1, ⟨_, _⟩), (2, ⟨_, .int _ _⟩)] ?_
 iterate 3 refine ae ?_
 refine ay (hc := h819 s (by omega)) ?_
 refine ae ?_
 refine bg (cL.D _) ?_
 refine bg (.bool _) ?_
 refine aZ ?_
 refine aM (cL.D ((dA s).getD dk)) (he := by exact rfl) ?_
 refine ae ?_
 refine ai [(3, ⟨_, .bool _⟩), (5, ⟨_, _⟩)] ?_
 iterate 3 refine ae ?_
 refine ai [(4, ⟨_, .bool _⟩)] ?_
 refine ak (fun hc0 => ?_) (fun hc0 => ?_)
 ·try simp only [au] at hc0
  iterate 2 refine ae ?_
  refine bG (d := cL.D ((dA s).getD dk)) ?_
  refine aM _ ?_
  refine ae ?_
  refine ai [(2, ⟨_, .int _ _⟩)] ?_
  refine ae ?_
  refine aB (aY ?_ (congrArg (D.int .i64) ?_))
  all_goals (have hn : gD s = dA s := if_pos hc0; rw [hn]; first | rfl | simp only [hc0, if_true])
 ·try simp only [au] at hc0
  iterate 4 refine ae ?_
  refine cq (hb := fun _ => by simp; omega) ?_
  refine ay (hc := h819 (94 :: s) (by simp; omega)) ?_
  refine ae ?_
  refine bg (cL.D _) ?_
  refine bg (.bool _) ?_
  refine aZ ?_
  refine aM (cL.D ((dA (94 :: s)).getD dk)) (he := by exact rfl) ?_
  refine ae ?_
  refine ai [(6, ⟨_, .bool _⟩), (8, ⟨_, _⟩)] ?_
  iterate 3 refine ae ?_
  refine ai [(7, ⟨_, .bool _⟩)] ?_
  refine ak (fun hc1 => ?_) (fun hc1 => ?_)
  ·try simp only [au] at hc1
   iterate 2 refine ae ?_
   refine bG (d := cL.D ((dA (94 :: s)).getD dk)) ?_
   refine aM _ ?_
   refine ae ?_
   refine ai [(2, ⟨_, .int _ _⟩)] ?_
   refine ae ?_
   refine aB (aY ?_ (congrArg (D.int .i64) ?_))
   all_goals (have hn : gD s = dA (94 :: s) := (by simp only [gD, hc0, Bool.false_eq_true, if_false]); rw [hn]; first | rfl | simp only [hc1, if_true])
  ·try simp only [au] at hc1
   iterate 2 refine ae ?_
   refine b6 (cL.D dk) ?_
   refine aM _ ?_
   refine ae ?_
   refine ai [(2, ⟨_, .int _ _⟩)] ?_
   refine ae ?_
   refine aB (aY ?_ (congrArg (D.int .i64) ?_))
   all_goals (have hn : gD s = none := (by simp only [gD, hc0, Bool.false_eq_true, if_false]; exact Option.not_isSome_iff_eq_none.1 (by rw [hc1]; simp)); rw [hn]; rfl)
def GS (Γ : Ctx) : Prop := ∀ (s : aq), (s.length ≤ 1048575) → Γ.pre 682 [.str s] ∧ Γ.val 682 [.str s] = .tup [cL.D ((gD s).getD dk), .int .i64 (if (gD s).isSome = true then 0 else 6)]
end Go.Abs
end
section
namespace Go.Abs
open Go
end Go.Abs
end
section
namespace Go.Abs
open Go
end Go.Abs
end
section
namespace Go.Abs
open Go
end Go.Abs
end
section
namespace Go.Abs
open Go
def lu : aI := { np := 1, ns := 19, res := [⟨1, none⟩, ⟨2, none⟩], rsh := [[.a], [.a]], body := (.seq (rg [gb 1 s0, gm (cs []), gm (cb false)] [(3, 0), (1, 1), (2, 2)]) (.seq (.seq (rg [gf 0 s3, gd l0, gl l1, gn (bQ l2 (i6 1)), gm l3, ⟨.fa 0 s3, some (4, false)⟩, ⟨.ld 1 false l5, some (4, false)⟩, ⟨.len l6, some (4, false)⟩, ⟨.bin .gtr l7 (i6 6), some (4, false)⟩, gn (.pick l4 (cb true) l8)] [(4, 9)]) (.cond s4 (.seq (rg [gm (cs []), gm (cb false)] [(1, 0), (2, 1)]) .ret) .skip)) (.seq (rg [gm (.c (.av))] [(18, 0)]) (.seq (.seq (rg [gf 0 s3, gd l0, gl l1, gm (i6 0)] [(8, 1), (6, 2), (5, 3)]) (.block 0 (.loop (.seq (rg [gn (bQ s5 s6)] [(7, 0)]) (.seq (.cond s7 .skip (.exit 0)) (.seq (.block 1 (.seq (rg [ga 1 s8 s5, gd l0, gm l1] [(9, 2)]) (.seq (.seq (rg [gm s9, gl l0, gn (bQ l1 (i6 1)), gm l2, ⟨.mv s9, some (3, false)⟩, ⟨.len l4, some (3, false)⟩, ⟨.bin .gtr l5 (i6 6), some (3, false)⟩, gn (.pick l3 (cb true) l6)] [(10, 7)]) (.cond kF (.seq (rg [gm (cs []), gm (cb false)] [(1, 0), (2, 1)]) .ret) .skip)) (.seq (rg [gm (.c (.av))] [(17, 0)]) (.seq (.seq (rg [gm s9, gl l0, gm (i6 0)] [(14, 0), (12, 1), (11, 2)]) (.block 2 (.loop (.seq (rg [gn (bQ mV jV)] [(13, 0)]) (.seq (.cond ri .skip (.exit 2)) (.seq (.block 3 (.seq (rg [ga 7 vj mV, gk 7 true l0, gb 7 (.c (.agg [.int .i64 0, .int .i64 0, .int .i64 0, .int .i64 0, .int .i64 0, .str [], .str []])), gt 7 l2 l1] [(15, 2)]) (.seq (.seq (rg [gk 7 true sE, gx 827 [l0] [[.a, .a, .a, .a, .a, .a, .a]], gn (.un .not l1)] [(16, 2)]) (.cond y6 (.seq (rg [gm (cs []), gm (cb false)] [(1, 0), (2, 1)]) .ret) .skip)) (rg [gm wS, gk 7 true sE, gx 828 [l1] [[.a, .a, .a, .a, .a, .a, .a]], gn (.bsl 1 (.str []) 1 [(0, l2)]), gn (.app 1 l0 l3), gm l4] [(17, 5)])))) (rg [gn (bh mV (i6 1)), gm l0] [(11, 1)]))))))) (rg [gm Ac, gm wS, gx 242 [l1, (cs [44, 32])] [[.sl 1 [.a]], [.a]], gn (.bsl 1 (.str []) 1 [(0, l2)]), gn (.app 1 l0 l3), gm l4] [(18, 5)])))))) (rg [gn (bh s5 (i6 1)), gm l0] [(5, 1)]))))))) (.seq (rg [gm Ac, gx 242 [l0, (cs [32, 124, 124, 32])] [[.sl 1 [.a]], [.a]], gm l1, gm (cb true)] [(1, 2), (2, 3)]) .ret))))) }
theorem w684 {Γ : Ctx} (hm : (Γ.at 0).bN) (h242 : Cs (Γ.at 0)) (h827 : Cx (Γ.at 0)) (h828 : EN (Γ.at 0)) (r : uC)  (hp0 : mq r) : bo (Γ.at 0) lu.body (eC lu (.tup [.str (if j9 r = true then Ab r else []), .bool (j9 r)]) : Ex → List aN → St → Prop) (bF lu [fM r]) ⟨0, []⟩ := by
 show bo _ _ _ [⟨true, fM r⟩, .un, .un, .un, .un, .un, .un, .un, .un, .un, .un, .un, .un, .un, .un, .un, .un, .un, .un] ⟨0, []⟩
 refine aw ?_
 refine aZ ?_
 iterate 2 refine ae ?_
 refine ai [(1, ⟨_, .str _⟩), (2, ⟨_, .bool _⟩), (3, ⟨_, _⟩)] ?_
 iterate 3 refine ae ?_
 first | refine aj (v := .sl _ _) ?_ | refine aj (v := .own _ _ _ _) ?_ | refine aj (v := .av) ?_
 refine aC fun u0 => ?_; specialize u0 rfl rfl
 refine aW ?_
 iterate 2 refine ae ?_
 first | refine aj (v := .sl _ _) ?_ | refine aj (v := .own _ _ _ _) ?_ | refine aj (v := .av) ?_
 refine aC fun _ => ?_
 refine bE ?_
 refine bY ?_
 refine ai [(4, ⟨_, .bool _⟩)] ?_
 refine ak (fun hc0 => ?_) (fun hc0 => ?_)
 ·try simp only [au] at hc0
  iterate 4 refine ae ?_
  refine ai [(1, ⟨_, .str _⟩), (2, ⟨_, .bool _⟩)] ?_
  refine ae ?_
  refine aB (aY (congrArg D.str ?_) (congrArg D.bool ?_))
  all_goals
   have hq : j9 r = false := by
    simp only [j9]; rcases hc0 with h | h
    ·rw [decide_eq_false (by omega)]; rfl
    ·rw [decide_eq_false (by omega : ¬ r.length ≤ 6), Bool.and_false]; rfl
   simp [hq]
 ·try simp only [au] at hc0
  iterate 3 refine ae ?_
  refine ai [(18, ⟨_, .av⟩)] ?_
  iterate 3 refine ae ?_
  first | refine aj (v := .sl _ _) ?_ | refine aj (v := .own _ _ _ _) ?_ | refine aj (v := .av) ?_
  refine aC fun u1 => ?_; specialize u1 rfl rfl
  refine ae ?_
  refine ai [(5, ⟨_, .int _ _⟩), (6, ⟨_, .int _ _⟩), (8, ⟨_, .sl _ _⟩)] ?_
  have hb : j9 r = bO (fun i => lA r[i]!) 0 r.length := by simp only [j9]; rw [decide_eq_true (by omega), decide_eq_true (by omega)]; rfl
  refine bz hm (ι := Nat) (fun i => [.un, .un, .un, ⟨true, .ptr 0 1 0 0⟩, .un, ⟨true, .int .i64 (i : Nat)⟩, ⟨true, .int .i64 (r.length : Nat)⟩, .un, ⟨true, .sl 1 (r.map om)⟩, .un, .un, .un, .un, .un, .un, .un, .un, .un, ⟨true, .own 1 1 0 ((r.map pr).take i).length⟩]) (fun i => [(0, .buf 1 [fM r]), (1, .buf 1 (((r.map pr).take i).map D.str))]) 18 (fun i => i ≤ r.length ∧ j9 r = bO (fun i => lA r[i]!) i r.length ∧ 1 ≤ r.length ∧ r.length ≤ 6) (fun i => r.length - i) 0 ⟨by omega, hb, by omega, by omega⟩ (az.to [(0, 0)] ah ah (by repeat (first | exact fE.nil | refine fE.un ?_ | refine fE.eq ah ?_ | refine fE.nl ah ah ?_ | refine fE.ni (Or.inr ⟨_, _, _, rfl⟩) ?_)) (by (first | refine aV.fR ah ah eK ?_ | refine aV.pH ah ah ah ?_ | refine aV.qj ah ah ah ah ?_); refine aV.mt ah ah ah ah ?_; exact aV.nil)) ?_
  rintro i ⟨hi, hr, hr1, hr6⟩
  have hti : ((r.map pr).take i).length ≤ i := by rw [List.length_take]; omega
  refine ae ?_
  refine aW ?_
  refine ai [(7, ⟨_, .bool _⟩)] ?_
  refine ak (fun hc1 => ?_) (fun hc1 => ?_)
  ·try simp only [au] at hc1
   refine ae ?_
   refine ax ?_ hm
   refine ae ?_
   first | refine aP _ ?_ | refine br ?_
   first | refine aS (v := (.sl _ _)) ?_ | refine bH (v := (.sl _ _)) ?_
   refine ae ?_
   refine ai [(9, ⟨_, .sl _ _⟩)] ?_
   iterate 3 refine ae ?_
   refine aC fun u2 => ?_; specialize u2 rfl rfl
   refine aW ?_
   iterate 2 refine ae ?_
   refine aC fun _ => ?_
   refine bE ?_
   refine bY ?_
   refine ai [(10, ⟨_, .bool _⟩)] ?_
   refine ak (fun hc2 => ?_) (fun hc2 => ?_)
   ·try simp only [au] at hc2
    iterate 4 refine ae ?_
    refine ai [(1, ⟨_, .str _⟩), (2, ⟨_, .bool _⟩)] ?_
    iterate 3 refine ae ?_
    refine aB (aY (congrArg D.str ?_) (congrArg D.bool ?_))
    all_goals
     have hq : j9 r = false := by
      rw [hr, aD (by omega)]
      have : lA r[i]! = false := by
       simp only [lA]; rcases hc2 with h | h
       ·rw [decide_eq_false (by omega)]; rfl
       ·rw [decide_eq_false (by omega : ¬ r[i]!.length ≤ 6), Bool.and_false]; rfl
      rw [this]; rfl
     simp [hq]
   ·try simp only [au] at hc2
    iterate 3 refine ae ?_
    refine ai [(17, ⟨_, .av⟩)] ?_
    iterate 3 refine ae ?_
    refine aC fun u3 => ?_; specialize u3 rfl rfl
    refine ae ?_
    refine ai [(11, ⟨_, .int _ _⟩), (12, ⟨_, .int _ _⟩), (14, ⟨_, .sl _ _⟩)] ?_
    have hal : 1 ≤ r[i]!.length ∧ r[i]!.length ≤ 6 := by omega
    have hkb : lA r[i]! = bO (fun k => jt r[i]![k]!) 0 r[i]!.length := by simp only [lA]; rw [decide_eq_true (by omega), decide_eq_true (by omega)]; rfl
    refine bz hm (ι := Nat) (fun k => [.un, .un, .un, ⟨true, .ptr 0 1 0 0⟩, .un, ⟨true, .int .i64 (i : Nat)⟩, ⟨true, .int .i64 (r.length : Nat)⟩, .un, ⟨true, .sl 1 (r.map om)⟩, .un, .un, ⟨true, .int .i64 (k : Nat)⟩, ⟨true, .int .i64 (r[i]!.length : Nat)⟩, .un, ⟨true, .sl 7 (r[i]!.map cL.D)⟩, .un, .un, ⟨true, .own 2 1 0 ((r[i]!.map du).take k).length⟩, ⟨true, .own 1 1 0 ((r.map pr).take i).length⟩]) (fun k => [(0, .buf 1 [fM r]), (1, .buf 1 (((r.map pr).take i).map D.str)), (2, .buf 1 (((r[i]!.map du).take k).map D.str))]) 34 (fun k => k ≤ r[i]!.length ∧ lA r[i]! = bO (fun k => jt r[i]![k]!) k r[i]!.length) (fun k => r[i]!.length - k) 0 ⟨by omega, hkb⟩ (az.to [(0, 0), (1, 1)] ah ah (by repeat (first | exact fE.nil | refine fE.un ?_ | refine fE.eq ah ?_ | refine fE.nl ah ah ?_ | refine fE.ni (Or.inr ⟨_, _, _, rfl⟩) ?_)) (by (first | refine aV.fR ah ah eK ?_ | refine aV.pH ah ah ah ?_ | refine aV.qj ah ah ah ah ?_); (first | refine aV.fR ah ah eK ?_ | refine aV.pH ah ah ah ?_ | refine aV.qj ah ah ah ah ?_); refine aV.mt ah ah ah ah ?_; exact aV.nil)) ?_
    rintro k ⟨hk, hkr⟩
    have htk : ((r[i]!.map du).take k).length ≤ k := by rw [List.length_take]; omega
    refine ae ?_
    refine aW ?_
    refine ai [(13, ⟨_, .bool _⟩)] ?_
    refine ak (fun hc3 => ?_) (fun hc3 => ?_)
    ·try simp only [au] at hc3
     refine ae ?_
     refine ax ?_ hm
     refine ae ?_
     first | refine aP _ ?_ | refine br ?_
     first | refine aS (v := (cL.D _)) ?_ | refine bH (v := (cL.D _)) ?_
     refine aZ ?_
     refine aM (cL.D r[i]![k]!) (he := by exact rfl) ?_
     refine ai [(15, ⟨_, _⟩)] ?_
     iterate 2 refine ae ?_
     have hlo := hp0 r[i]! (cE (by omega)) _ (cE (show k < r[i]!.length by omega))
     refine bG ?_
     refine ay (hc := h827 r[i]![k]! hlo.sm) ?_
     refine ct ?_
     refine ai [(16, ⟨_, .bool _⟩)] ?_
     refine ak (fun hc4 => ?_) (fun hc4 => ?_)
     ·simp only [Bool.not_eq_true'] at hc4
      iterate 4 refine ae ?_
      refine ai [(1, ⟨_, .str _⟩), (2, ⟨_, .bool _⟩)] ?_
      iterate 5 refine ae ?_
      refine aB (aY (congrArg D.str ?_) (congrArg D.bool ?_))
      all_goals
       have hq : j9 r = false := by rw [hr, aD (by omega), hkr, aD (by omega), hc4]; rfl
       simp [hq]
     ·simp only [Bool.not_eq_false'] at hc4
      iterate 3 refine ae ?_
      refine bG ?_
      refine ay (hc := h828 r[i]![k]! hlo.sm) ?_
      refine dK [(.str _)] ?_
      refine iu ?_
      refine ae ?_
      refine bL [(17, ⟨_, .own _ _ _ _⟩)] ?_
      iterate 2 refine ae ?_
      refine aF ?_
      refine ae ?_
      refine bL [(11, ⟨_, .int _ _⟩)] ?_
      refine ae ?_
      have hq := gX du r[i]! (show k < r[i]!.length by omega)
      rw [← hq]
      exact ⟨k + 1, ⟨by omega, by rw [hkr, aD (by omega), hc4]; rfl⟩, by omega, (az.to [(0, 0), (1, 1), (46, 2)] ah ah aX (by (first | refine aV.fR ah ah eK ?_ | refine aV.pH ah ah ah ?_ | refine aV.qj ah ah ah ah ?_); (first | refine aV.fR ah ah eK ?_ | refine aV.pH ah ah ah ?_ | refine aV.qj ah ah ah ah ?_); refine aV.nl 46 ah ah ah eK ?_; exact aV.nil))⟩
    ·try simp only [au] at hc3
     iterate 3 refine ae ?_
     obtain rfl : k = r[i]!.length := by omega
     have hok : lA r[i]! = true := by rw [hkr, bD (by omega)]
     rw [List.take_of_length_le (show (r[i]!.map du).length ≤ r[i]!.length by rw [List.length_map]; exact Nat.le_refl _)]
     have hj : ∀ t ∈ (r[i]!.map du), t.length ≤ 2097200 := fun t ht => by
      obtain ⟨c, hc, rfl⟩ := List.mem_map.1 ht
      exact Nat.le_trans (vS (hp0 r[i]! (cE (by omega)) c hc)) (by decide)
     iterate 2 refine ae ?_
     refine ay (hc := h242 (r[i]!.map du) [44, 32] (by rw [List.length_map]; omega) (by simp) hj) (ha := fun _ => congrArg (fun d => [d, D.str [44, 32]]) (vu (q := D.str) (fun _ => rfl) ah)) (hp := fun _ => ⟨sT (q := D.str) (fun _ => rfl) ah, rfl, trivial⟩) ?_
     refine dK [.str (pr r[i]!)] ?_
     refine iu ?_
     refine ae ?_
     refine bL [(18, ⟨_, .own _ _ _ _⟩)] ?_
     iterate 2 refine ae ?_
     refine aF ?_
     refine ae ?_
     refine bL [(5, ⟨_, .int _ _⟩)] ?_
     refine ae ?_
     have hq := gX pr r (show i < r.length by omega)
     rw [← hq]
     exact ⟨i + 1, ⟨by omega, by rw [hr, aD (by omega), hok]; rfl, hr1, hr6⟩, by omega, (az.to [(0, 0), (39, 1)] ah ah aX (by (first | refine aV.fR ah ah eK ?_ | refine aV.pH ah ah ah ?_ | refine aV.qj ah ah ah ah ?_); refine aV.nl 39 ah ah ah eK ?_; exact aV.nil))⟩
  ·try simp only [au] at hc1
   iterate 3 refine ae ?_
   obtain rfl : i = r.length := by omega
   have hfw : j9 r = true := by rw [hr, bD (by omega)]
   rw [List.take_of_length_le (show (r.map pr).length ≤ r.length by rw [List.length_map]; exact Nat.le_refl _)]
   have hj : ∀ t ∈ (r.map pr), t.length ≤ 2097200 := fun t ht => by
    obtain ⟨a, ha, rfl⟩ := List.mem_map.1 ht
    obtain ⟨i, hi, rfl⟩ := List.mem_iff_getElem.1 ha
    have h1 := AV hfw hi
    rw [show r[i]! = r[i] by simp [hi]] at h1
    exact Nat.le_trans (AD (hp0 _ ha) (zo h1).2) (by decide)
   refine ae ?_
   refine ay (hc := h242 (r.map pr) [32, 124, 124, 32] (by rw [List.length_map]; omega) (by simp) hj) (ha := fun _ => congrArg (fun d => [d, D.str [32, 124, 124, 32]]) (vu (q := D.str) (fun _ => rfl) ah)) (hp := fun _ => ⟨sT (q := D.str) (fun _ => rfl) ah, rfl, trivial⟩) ?_
   iterate 2 refine ae ?_
   refine ai [(1, ⟨_, .str _⟩), (2, ⟨_, .bool _⟩)] ?_
   refine ae ?_
   refine aB (aY (congrArg D.str ?_) (congrArg D.bool ?_))
   all_goals (simp only [hfw, if_true]; first | done | rfl)
def Cw (Γ : Ctx) : Prop := ∀ (r : uC), (mq r) → Γ.pre 684 [fM r] ∧ Γ.val 684 [fM r] = .tup [.str (if j9 r = true then Ab r else []), .bool (j9 r)]
def mW : aI := { np := 1, ns := 5, res := [⟨1, none⟩], rsh := [[.a]], body := (.seq (rg [gb 1 s0, gm (cb false)] [(2, 0), (1, 1)]) (.seq (rg [gk 1 true s2, gx 684 [l0] [[.sl 1 [.sl 7 [.a, .a, .a, .a, .a, .a, .a]]]], gm l1, ge l2 0, ge l2 1, gm l3, gm l4] [(4, 5), (3, 6)]) (.seq (rg [gm s3, gm l0, ⟨.mv s4, some (1, true)⟩, ⟨.lenS l2, some (1, true)⟩, ⟨.bin .leq l3 (i6 96), some (1, true)⟩, gn (.pick l1 l4 (cb false)), gm l5] [(1, 6)]) .ret))) }
theorem w685 {Γ : Ctx} (hm : (Γ.at 0).bN) (h684 : Cw (Γ.at 0)) (r : uC)  (hp0 : mq r) : bo (Γ.at 0) mW.body (eC mW (.bool (pN r)) : Ex → List aN → St → Prop) (bF mW [fM r]) ⟨0, []⟩ := by
 show bo _ _ _ [⟨true, fM r⟩, .un, .un, .un, .un] ⟨0, []⟩
 refine aw ?_
 refine aZ ?_
 refine ae ?_
 refine ai [(1, ⟨_, .bool _⟩), (2, ⟨_, _⟩)] ?_
 refine ae ?_
 refine bG ?_
 refine ay (hc := h684 r hp0) ?_
 refine ae ?_
 refine bg (.str _) ?_
 refine bg (.bool _) ?_
 iterate 2 refine ae ?_
 refine ai [(3, ⟨_, .bool _⟩), (4, ⟨_, .str _⟩)] ?_
 iterate 4 refine ae ?_
 refine cv fun _ => ?_
 refine jj ?_
 refine bK ?_
 refine ae ?_
 refine ai [(1, ⟨_, .bool _⟩)] ?_
 refine ae ?_
 refine aB (congrArg D.bool ?_)
 cases hf : j9 r with
 | false => simp [pN, hf]
 | true => simp only [pN, hf, if_true, Bool.true_and]; exact decide_eq_decide.2 (by omega)
def GV (Γ : Ctx) : Prop := ∀ (r : uC), (mq r) → Γ.pre 685 [fM r] ∧ Γ.val 685 [fM r] = .bool (pN r)
def jX : aI := { np := 1, ns := 6, res := [⟨1, none⟩], rsh := [[.a]], body := (.seq (rg [gb 1 s0, gm (cs [])] [(2, 0), (1, 1)]) (.seq (.seq (rg [gk 1 true s2, gx 684 [l0] [[.sl 1 [.sl 7 [.a, .a, .a, .a, .a, .a, .a]]]], gm l1, ge l2 0, ge l2 1, gm l3, gm l4] [(4, 5), (3, 6)]) (.seq (rg [gm s3, gm l0, ⟨.mv s4, some (1, true)⟩, ⟨.lenS l2, some (1, true)⟩, ⟨.bin .leq l3 (i6 96), some (1, true)⟩, gn (.pick l1 l4 (cb false))] [(5, 5)]) (.cond s5 (.seq (rg [gm s4, gm l0] [(1, 1)]) .ret) .skip))) (.seq (rg [gm (cs [])] [(1, 0)]) .ret))) }
theorem w496 {Γ : Ctx} (hm : (Γ.at 0).bN) (h684 : Cw (Γ.at 0)) (r : uC)  (hp0 : mq r) : bo (Γ.at 0) jX.body (eC jX (.str (ua r)) : Ex → List aN → St → Prop) (bF jX [fM r]) ⟨0, []⟩ := by
 show bo _ _ _ [⟨true, fM r⟩, .un, .un, .un, .un, .un] ⟨0, []⟩
 refine aw ?_
 refine aZ ?_
 refine ae ?_
 refine ai [(1, ⟨_, .str _⟩), (2, ⟨_, _⟩)] ?_
 iterate 2 refine ae ?_
 refine bG ?_
 refine ay (hc := h684 r hp0) ?_
 refine ae ?_
 refine bg (.str _) ?_
 refine bg (.bool _) ?_
 iterate 2 refine ae ?_
 refine ai [(3, ⟨_, .bool _⟩), (4, ⟨_, .str _⟩)] ?_
 iterate 5 refine ae ?_
 refine cv fun _ => ?_
 refine jj ?_
 refine bK ?_
 refine ai [(5, ⟨_, .bool _⟩)] ?_
 refine ak (fun hc0 => ?_) (fun hc0 => ?_)
 ·simp only [Bool.and_eq_true, decide_eq_true_eq] at hc0
  iterate 4 refine ae ?_
  refine ai [(1, ⟨_, .str _⟩)] ?_
  refine ae ?_
  refine aB (congrArg D.str ?_)
  have hm : pN r = true := by simp only [pN, hc0.1, Bool.true_and, decide_eq_true_eq]; have := hc0.2; rw [hc0.1, if_pos rfl] at this; omega
  simp only [ua, hm, hc0.1, if_true]
 ·skip
  iterate 3 refine ae ?_
  refine ai [(1, ⟨_, .str _⟩)] ?_
  refine ae ?_
  refine aB (congrArg D.str ?_)
  have hm : pN r = false := by
   cases hf : j9 r with
   | false => simp [pN, hf]
   | true =>
    rw [hf] at hc0; simp only [if_true, Bool.true_and, decide_eq_false_iff_not] at hc0
    simp only [pN, hf, Bool.true_and, decide_eq_false_iff_not]; omega
  simp [ua, hm]
def GO (Γ : Ctx) : Prop := ∀ (r : uC), (mq r) → Γ.pre 496 [fM r] ∧ Γ.val 496 [fM r] = .str (ua r)
end Go.Abs
end
section
namespace Go.Abs
open Go
def D0 (Γ : Ctx) : Prop := ∀ (s : aq), (s.length ≤ 1048576) → Γ.pre 124 [.str s, .str [124, 124]] ∧ Γ.val 124 [.str s, .str [124, 124]] = .sl 1 ((aK s []).map D.str)
def GU (Γ : Ctx) : Prop := ∀ (s : aq) (b : UInt8), (b = 32) → (s.length ≤ 1048576) → Γ.pre 683 [.str s, .str [b]] ∧ Γ.val 683 [.str s, .str [b]] = .str (dZ s)
def Ey (Γ : Ctx) : Prop := ∀ (r : Rec), (tG r ∧ kD r) → Γ.pre 215 [Rec.D r] ∧ Γ.val 215 [Rec.D r] = .str (o9 r)
end Go.Abs
end
section
namespace Go.Abs
open Go
def jW : aI := { np := 1, ns := 22, res := [⟨1, some (1, true)⟩, ⟨2, none⟩], rsh := [[.sl 1 [.sl 7 [.a, .a, .a, .a, .a, .a, .a]]], [.a]], body := (.seq (rg [gb 1 (.c (.agg [.av])), gm (i6 0)] [(1, 0), (2, 1)]) (.seq (.seq (rg [gm s0, gn (.lenS l0), gn (fN l1 (i6 96))] [(3, 2)]) (.cond s3 (.seq (rg [gn (.build [.av] []), gt 1 s1 l0, gm (i6 3)] [(2, 2)]) .ret) .skip)) (.seq (rg [gb 1 (.c (.agg [.av]))] [(18, 0)]) (.seq (.seq (rg [gm s0, gx 124 [l0, (cs [124, 124])] [[.a], [.a]], gl l1, gm (i6 0)] [(7, 1), (5, 2), (4, 3)]) (.block 0 (.loop (.seq (rg [gn (bQ s4 s5)] [(6, 0)]) (.seq (.cond s6 .skip (.exit 0)) (.seq (.block 1 (.seq (rg [ga 1 s7 s4, gd l0, gm l1] [(8, 2)]) (.seq (rg [gm (.c (.av))] [(16, 0)]) (.seq (.seq (rg [gm s8, gx 124 [l0, (cs [44])] [[.a], [.a]], gl l1, gm (i6 0)] [(12, 1), (10, 2), (9, 3)]) (.block 2 (.loop (.seq (rg [gn (bQ s9 kF)] [(11, 0)]) (.seq (.cond mV .skip (.exit 2)) (.seq (.block 3 (.seq (rg [ga 1 jV s9, gd l0, gm l1] [(13, 2)]) (.seq (rg [gm ri, gx 683 [l0, (cs [32])] [[.a], [.a]], gx 682 [l1] [[.a]], gm l2, ge l3 0, ge l3 1, gb 7 (.c (.agg [.int .i64 0, .int .i64 0, .int .i64 0, .int .i64 0, .int .i64 0, .str [], .str []])), gt 7 l6 l4, gm l5] [(17, 6), (14, 8)]) (.seq (.seq (rg [gm vj, gn (cN l0 (i6 0))] [(15, 1)]) (.cond sE (.seq (rg [gn (.build [.av] []), gt 1 s1 l0, gm (i6 6)] [(2, 2)]) .ret) .skip)) (rg [gm y6, gk 7 true wS, gn (.bsl 7 (.agg [.int .i64 0, .int .i64 0, .int .i64 0, .int .i64 0, .int .i64 0, .str [], .str []]) 1 [(0, l1)]), gn (.app 7 l0 l2), gm l3] [(16, 4)]))))) (rg [gn (bh s9 (i6 1)), gm l0] [(9, 1)]))))))) (rg [gf 0 Ac, gd l0, gm y6, gn (.bsl 1 (.av) 1 [(0, l2)]), gn (.app 1 l1 l3), gf 0 Ac, gt 1 l5 l4] []))))) (rg [gn (bh s4 (i6 1)), gm l0] [(4, 1)]))))))) (.seq (.seq (rg [gk 1 true Ac, gx 684 [l0] [[.sl 1 [.sl 7 [.a, .a, .a, .a, .a, .a, .a]]]], gm l1, ge l2 0, ge l2 1, gm l3, gm l4] [(19, 6)]) (.seq (rg [gm FH, gn (.un .not l0)] [(20, 1)]) (.cond Cm (.seq (rg [gn (.build [.av] []), gt 1 s1 l0, gm (i6 6)] [(2, 2)]) .ret) .skip))) (.seq (.seq (rg [gk 1 true Ac, gx 685 [l0] [[.sl 1 [.sl 7 [.a, .a, .a, .a, .a, .a, .a]]]], gn (.un .not l1)] [(21, 2)]) (.cond s21 (.seq (rg [gn (.build [.av] []), gt 1 s1 l0, gm (i6 3)] [(2, 2)]) .ret) .skip)) (.seq (rg [gk 1 true Ac, gt 1 s1 l0, gm (i6 0)] [(2, 2)]) .ret))))))) }
theorem w495 {Γ : Ctx} (hm : (Γ.at 0).bN) (h124 : Av (Γ.at 0)) (h682 : GS (Γ.at 0)) (h683 : GU (Γ.at 0)) (h684 : Cw (Γ.at 0)) (h685 : GV (Γ.at 0)) (h9124 : D0 (Γ.at 0)) (s : aq)  (hp0 : s.length ≤ 1048576) : bo (Γ.at 0) jW.body (eC jW (.tup [fM (iw s).1, .int .i64 (iw s).2]) : Ex → List aN → St → Prop) (bF jW [.str s]) ⟨0, []⟩ := by
 show bo _ _ _ [⟨true, .str s⟩, .un, .un, .un, .un, .un, .un, .un, .un, .un, .un, .un, .un, .un, .un, .un, .un, .un, .un, .un, .un, .un] ⟨0, []⟩
 have hdl := lx s []
 have hgl : ∀ i, i < (aK s []).length → (aK s [])[i]!.length ≤ s.length := fun i hi => by
  have := hdl.2 _ (cE hi); simpa using this
 refine aw ?_
 refine aZ ?_
 refine ae ?_
 refine ai [(1, ⟨_, _⟩), (2, ⟨_, .int _ _⟩)] ?_
 iterate 3 refine ae ?_
 refine cv fun u0 => ?_; specialize u0 rfl rfl
 refine bE ?_
 refine ai [(3, ⟨_, .bool _⟩)] ?_
 refine ak (fun hc0 => ?_) (fun hc0 => ?_)
 ·try simp only [au] at hc0
  iterate 2 refine ae ?_
  refine ll [.av] ?_
  refine aM (.agg [.av]) (he := by exact rfl) ?_
  refine ae ?_
  refine ai [(2, ⟨_, .int _ _⟩)] ?_
  refine ae ?_
  refine aB (aY ?_ (congrArg (D.int .i64) ?_))
  all_goals
   have hq : iw s = ([], 3) := by
    unfold iw; rw [if_pos (by omega)]
   rw [hq]; first | done | rfl
 ·try simp only [au] at hc0
  iterate 2 refine ae ?_
  refine aZ ?_
  refine ai [(18, ⟨_, _⟩)] ?_
  iterate 3 refine ae ?_
  refine ay (hc := h9124 s (by omega)) ?_
  refine aC fun u1 => ?_; specialize u1 rfl rfl
  refine ae ?_
  refine ai [(4, ⟨_, .int _ _⟩), (5, ⟨_, .int _ _⟩), (7, ⟨_, .sl _ _⟩)] ?_
  refine bz hm (ι := Nat) (fun i => [.un, ⟨true, .ptr 0 1 0 0⟩, .un, .un, ⟨true, .int .i64 (i : Nat)⟩, ⟨true, .int .i64 ((aK s []).length : Nat)⟩, .un, ⟨true, .sl 1 ((aK s []).map D.str)⟩, .un, .un, .un, .un, .un, .un, .un, .un, .un, .un, ⟨true, .ptr 5 1 0 0⟩, .un, .un, .un]) (fun i => [(0, .buf 1 [.agg [.av]]), (5, .buf 1 [.agg [.own 1 1 0 ((kg s).take i).length]]), (1, .buf 1 (((kg s).take i).map om))]) 10 (fun i => i ≤ (aK s []).length ∧ y0 s = bO (fun i => wOK (aK s [])[i]!) i (aK s []).length) (fun i => (aK s []).length - i) 0 ⟨by omega, rfl⟩ (az.to [(0, 0), (5, 5)] ah ah aX (by (first | refine aV.fR ah ah eK ?_ | refine aV.pH ah ah ah ?_ | refine aV.qj ah ah ah ah ?_); refine aV.ni 5 ah ah (by exact ⟨_, _, rfl, ⟨_, rfl, ⟨_, _, rfl, Or.inr ⟨_, _, _, rfl⟩, rfl⟩⟩, rfl⟩) ?_; refine aV.mt ah ah ah ah ?_; exact aV.nil)) ?_
  rintro i ⟨hi, hr⟩
  have hrt : ((kg s).take i).length ≤ i := by rw [List.length_take]; omega
  refine ae ?_
  refine aW ?_
  refine ai [(6, ⟨_, .bool _⟩)] ?_
  refine ak (fun hc1 => ?_) (fun hc1 => ?_)
  ·try simp only [au] at hc1
   refine ae ?_
   refine ax ?_ hm
   refine ae ?_
   first | refine aP _ ?_ | refine br ?_
   first | refine aS (v := (.str _)) ?_ | refine bH (v := (.str _)) ?_
   refine ae ?_
   refine ai [(8, ⟨_, .str _⟩)] ?_
   iterate 2 refine ae ?_
   refine ai [(16, ⟨_, .av⟩)] ?_
   iterate 2 refine ae ?_
   have hgi := hgl i (by omega)
   have hsl := cY (aK s [])[i]! 44
   have hsp : 1 ≤ (ar (aK s [])[i]! 44).length := fB _ _ _
   refine ae ?_
   refine ay (v := .sl 1 ((ar (aK s [])[i]! 44).map D.str)) (hc := h124 (aK s [])[i]! 44 (by omega)) ?_
   refine aC fun u2 => ?_; specialize u2 rfl rfl
   refine ae ?_
   refine ai [(9, ⟨_, .int _ _⟩), (10, ⟨_, .int _ _⟩), (12, ⟨_, .sl _ _⟩)] ?_
   refine bz hm (ι := Nat) (fun k => [.un, ⟨true, .ptr 0 1 0 0⟩, .un, .un, ⟨true, .int .i64 (i : Nat)⟩, ⟨true, .int .i64 ((aK s []).length : Nat)⟩, .un, ⟨true, .sl 1 ((aK s []).map D.str)⟩, .un, ⟨true, .int .i64 (k : Nat)⟩, ⟨true, .int .i64 ((ar (aK s [])[i]! 44).length : Nat)⟩, .un, ⟨true, .sl 1 ((ar (aK s [])[i]! 44).map D.str)⟩, .un, .un, .un, ⟨true, .own 2 7 0 ((pw (aK s [])[i]!).take k).length⟩, .un, ⟨true, .ptr 5 1 0 0⟩, .un, .un, .un]) (fun k => [(0, .buf 1 [.agg [.av]]), (5, .buf 1 [.agg [.own 1 1 0 ((kg s).take i).length]]), (1, .buf 1 (((kg s).take i).map om)), (2, .buf 7 (((pw (aK s [])[i]!).take k).map cL.D))]) 19 (fun k => k ≤ (ar (aK s [])[i]! 44).length ∧ wOK (aK s [])[i]! = bO (fun k => (eM (dZ (ar (aK s [])[i]! 44)[k]!)).isSome) k (ar (aK s [])[i]! 44).length) (fun k => (ar (aK s [])[i]! 44).length - k) 0 ⟨by omega, rfl⟩ (az.to [(0, 0), (5, 5), (1, 1)] ah ah (by repeat (first | exact fE.nil | refine fE.un ?_ | refine fE.eq ah ?_ | refine fE.nl ah ah ?_ | refine fE.ni (Or.inr ⟨_, _, _, rfl⟩) ?_)) (by (first | refine aV.fR ah ah eK ?_ | refine aV.pH ah ah ah ?_ | refine aV.qj ah ah ah ah ?_); (first | refine aV.fR ah ah eK ?_ | refine aV.pH ah ah ah ?_ | refine aV.qj ah ah ah ah ?_); (first | refine aV.fR ah ah eK ?_ | refine aV.pH ah ah ah ?_ | refine aV.qj ah ah ah ah ?_); refine aV.mt ah ah ah ah ?_; exact aV.nil)) ?_
   rintro k ⟨hk, hwk⟩
   have htk : ((pw (aK s [])[i]!).take k).length ≤ k := by rw [List.length_take]; omega
   refine ae ?_
   refine aW ?_
   refine ai [(11, ⟨_, .bool _⟩)] ?_
   refine ak (fun hc2 => ?_) (fun hc2 => ?_)
   ·try simp only [au] at hc2
    refine ae ?_
    refine ax ?_ hm
    refine ae ?_
    first | refine aP _ ?_ | refine br ?_
    first | refine aS (v := (.str _)) ?_ | refine bH (v := (.str _)) ?_
    refine ae ?_
    refine ai [(13, ⟨_, .str _⟩)] ?_
    refine ae ?_
    have hwl := ye (aK s [])[i]! 44 (show k < (ar (aK s [])[i]! 44).length by omega)
    have hbl := tp (ar (aK s [])[i]! 44)[k]!
    refine ae ?_
    refine ay (hc := h683 (ar (aK s [])[i]! 44)[k]! 32 rfl (by omega)) ?_
    refine ay (v := .tup [cL.D ((eM (dZ (ar (aK s [])[i]! 44)[k]!)).getD dk), .int .i64 (if (eM (dZ (ar (aK s [])[i]! 44)[k]!)).isSome = true then 0 else 6)]) (hc := by rw [← AM]; exact h682 (dZ (ar (aK s [])[i]! 44)[k]!) (by omega)) ?_
    refine ae ?_
    refine bg (cL.D _) ?_
    refine bg (.int _ _) ?_
    refine aZ ?_
    refine aM (cL.D ((eM (dZ (ar (aK s [])[i]! 44)[k]!)).getD dk)) (he := by exact rfl) ?_
    refine ae ?_
    refine ai [(14, ⟨_, .int _ _⟩), (17, ⟨_, _⟩)] ?_
    iterate 3 refine ae ?_
    refine bU ?_
    refine ai [(15, ⟨_, .bool _⟩)] ?_
    refine ak (fun hc3 => ?_) (fun hc3 => ?_)
    ·have hsm : (eM (dZ (ar (aK s [])[i]! 44)[k]!)).isSome = false := by cases hx : (eM (dZ (ar (aK s [])[i]! 44)[k]!)).isSome with | false => rfl | true => rw [hx] at hc3; exact absurd hc3 (by decide)
     iterate 2 refine ae ?_
     refine ll [.av] ?_
     refine aM (.agg [.av]) (he := by exact rfl) ?_
     refine ae ?_
     refine ai [(2, ⟨_, .int _ _⟩)] ?_
     iterate 5 refine ae ?_
     refine aB (aY ?_ (congrArg (D.int .i64) ?_))
     all_goals
      have hq : iw s = ([], 6) := by
       have hno : y0 s = false := by rw [hr, aD (by omega), hwk, aD (by omega), hsm]; rfl
       unfold iw; rw [if_neg (by omega), if_pos hno]
      rw [hq]; first | done | rfl
    ·have hsm : (eM (dZ (ar (aK s [])[i]! 44)[k]!)).isSome = true := by cases hx : (eM (dZ (ar (aK s [])[i]! 44)[k]!)).isSome with | true => rfl | false => rw [hx] at hc3; exact absurd hc3 (by decide)
     iterate 3 refine ae ?_
     refine bG (d := cL.D ((eM (dZ (ar (aK s [])[i]! 44)[k]!)).getD dk)) ?_
     refine dK [(cL.D _)] ?_
     refine iu ?_
     refine ae ?_
     refine bL [(16, ⟨_, .own _ _ _ _⟩)] ?_
     iterate 2 refine ae ?_
     refine aF ?_
     refine ae ?_
     refine bL [(9, ⟨_, .int _ _⟩)] ?_
     refine ae ?_
     have hq := gX (fun x => (eM (dZ x)).getD dk) (ar (aK s [])[i]! 44) (show k < (ar (aK s [])[i]! 44).length by omega)
     rw [show (fun x => (eM (dZ x)).getD dk) = fun x => (eM (dZ x)).getD dk from rfl] at hq
     have hq : (pw (aK s [])[i]!).take (k + 1) = _ := hq
     rw [show (pw (aK s [])[i]!).take k ++ [(eM (dZ (ar (aK s [])[i]! 44)[k]!)).getD dk] = (pw (aK s [])[i]!).take (k + 1) from hq.symm]
     exact ⟨k + 1, ⟨by omega, by rw [hwk, aD (by omega), hsm]; rfl⟩, by omega, (az.to [(0, 0), (5, 5), (1, 1), (37, 2)] ah ah aX (by (first | refine aV.fR ah ah eK ?_ | refine aV.pH ah ah ah ?_ | refine aV.qj ah ah ah ah ?_); (first | refine aV.fR ah ah eK ?_ | refine aV.pH ah ah ah ?_ | refine aV.qj ah ah ah ah ?_); (first | refine aV.fR ah ah eK ?_ | refine aV.pH ah ah ah ?_ | refine aV.qj ah ah ah ah ?_); refine aV.nl 37 ah ah ah eK ?_; exact aV.nil))⟩
   ·try simp only [au] at hc2
    iterate 2 refine ae ?_
    refine ij 2 ?_ (he := by simp only [lM, gI, kL, nn, oI, cg, Nat.reduceEqDiff, if_true, if_false, and_self, true_and, and_true, false_and, and_false, Nat.zero_add, List.length_map, Nat.le_refl, List.drop_zero, aO, reduceCtorEq, List.length_cons, List.length_nil, Nat.reduceAdd, Nat.reduceLeDiff, qV]; exact rfl) (hm := by simp only [lM, gI, kL, nn, oI, cg, Nat.reduceEqDiff, if_true, if_false, and_self, true_and, and_true, false_and, and_false, Nat.zero_add, List.length_map, Nat.le_refl, List.drop_zero, aO, reduceCtorEq, List.length_cons, List.length_nil, Nat.reduceAdd, Nat.reduceLeDiff, qV]; exact rfl)
    refine ae ?_
    obtain rfl : k = (ar (aK s [])[i]! 44).length := by omega
    rw [List.take_of_length_le (show (pw (aK s [])[i]!).length ≤ (ar (aK s [])[i]! 44).length by simp [pw])]
    refine ae ?_
    refine aj (v := .own _ _ _ _) ?_
    refine ae ?_
    refine dK [om (pw (aK s [])[i]!)] ?_
    refine iu ?_
    refine ae ?_
    refine aM (.agg [.own 24 1 0 ((kg s).take i ++ [pw (aK s [])[i]!]).length]) (he := by exact rfl) ?_
    refine bL [] ?_
    iterate 2 refine ae ?_
    refine aF ?_
    refine ae ?_
    refine bL [(4, ⟨_, .int _ _⟩)] ?_
    refine ae ?_
    have hq : (kg s).take (i + 1) = (kg s).take i ++ [pw (aK s [])[i]!] := gX pw (aK s []) (show i < (aK s []).length by omega)
    rw [← hq]
    exact ⟨i + 1, ⟨by omega, by rw [hr, aD (by omega), hwk, bD (by omega)]; rfl⟩, by omega, (az.to [(0, 0), (5, 5), (24, 1)] ah ah aX (by (first | refine aV.fR ah ah eK ?_ | refine aV.pH ah ah ah ?_ | refine aV.qj ah ah ah ah ?_); (first | refine aV.fR ah ah eK ?_ | refine aV.pH ah ah ah ?_ | refine aV.qj ah ah ah ah ?_); refine aV.nl 24 ah ah ah eK ?_; exact aV.nil))⟩
  ·try simp only [au] at hc1
   iterate 3 refine ae ?_
   refine ij 1 ?_ (he := by simp only [lM, gI, kL, nn, oI, cg, Nat.reduceEqDiff, if_true, if_false, and_self, true_and, and_true, false_and, and_false, Nat.zero_add, List.length_map, Nat.le_refl, List.drop_zero, aO, reduceCtorEq, List.length_cons, List.length_nil, Nat.reduceAdd, Nat.reduceLeDiff, qV]; exact rfl) (hm := by simp only [lM, gI, kL, nn, oI, cg, Nat.reduceEqDiff, if_true, if_false, and_self, true_and, and_true, false_and, and_false, Nat.zero_add, List.length_map, Nat.le_refl, List.drop_zero, aO, reduceCtorEq, List.length_cons, List.length_nil, Nat.reduceAdd, Nat.reduceLeDiff, qV]; exact rfl)
   refine ae ?_
   obtain rfl : i = (aK s []).length := by omega
   have hok : y0 s = true := by rw [hr, bD (by omega)]
   rw [List.take_of_length_le (show (kg s).length ≤ (aK s []).length by simp [kg])]
   have hrs := y5 (s := s) (by omega)
   refine bG (d := fM (kg s)) ?_
   refine ay (hc := h684 (kg s) hrs) ?_
   refine ae ?_
   refine bg (.str _) ?_
   refine bg (.bool _) ?_
   iterate 2 refine ae ?_
   refine ai [(19, ⟨_, .bool _⟩)] ?_
   iterate 3 refine ae ?_
   refine ct ?_
   refine ai [(20, ⟨_, .bool _⟩)] ?_
   refine ak (fun hc4 => ?_) (fun hc4 => ?_)
   ·simp only [Bool.not_eq_true'] at hc4
    iterate 2 refine ae ?_
    refine ll [.av] ?_
    refine aM (.agg [.av]) (he := by exact rfl) ?_
    refine ae ?_
    refine ai [(2, ⟨_, .int _ _⟩)] ?_
    refine ae ?_
    refine aB (aY ?_ (congrArg (D.int .i64) ?_))
    all_goals
     have hq : iw s = ([], 6) := by
      unfold iw; rw [if_neg (by omega), if_neg (by rw [hok]; simp), if_pos hc4]
     rw [hq]; first | done | rfl
   ·simp only [Bool.not_eq_false'] at hc4
    iterate 3 refine ae ?_
    refine bG (d := fM (kg s)) ?_
    refine ay (hc := h685 (kg s) hrs) ?_
    refine ct ?_
    refine ai [(21, ⟨_, .bool _⟩)] ?_
    refine ak (fun hc5 => ?_) (fun hc5 => ?_)
    ·simp only [Bool.not_eq_true', pN, hc4, Bool.true_and, decide_eq_false_iff_not] at hc5
     iterate 2 refine ae ?_
     refine ll [.av] ?_
     refine aM (.agg [.av]) (he := by exact rfl) ?_
     refine ae ?_
     refine ai [(2, ⟨_, .int _ _⟩)] ?_
     refine ae ?_
     refine aB (aY ?_ (congrArg (D.int .i64) ?_))
     all_goals
      have hq : iw s = ([], 3) := by
       unfold iw; rw [if_neg (by omega), if_neg (by rw [hok]; simp), if_neg (by rw [hc4]; simp), if_pos (by omega)]
      rw [hq]; first | done | rfl
    ·simp only [Bool.not_eq_false', pN, hc4, Bool.true_and, decide_eq_true_eq] at hc5
     iterate 2 refine ae ?_
     refine bG (d := fM (kg s)) ?_
     refine aM (fM (kg s)) (he := by exact rfl) ?_
     refine ae ?_
     refine ai [(2, ⟨_, .int _ _⟩)] ?_
     refine ae ?_
     refine aB (aY ?_ (congrArg (D.int .i64) ?_))
     all_goals
      have hq : iw s = (kg s, 0) := by
       unfold iw; rw [if_neg (by omega), if_neg (by rw [hok]; simp), if_neg (by rw [hc4]; simp), if_neg (by omega)]
      rw [hq]; first | done | rfl
def GN (Γ : Ctx) : Prop := ∀ (s : aq), (s.length ≤ 1048576) → Γ.pre 495 [.str s] ∧ Γ.val 495 [.str s] = .tup [fM (iw s).1, .int .i64 (iw s).2]
end Go.Abs
end
section
namespace Go.Abs
open Go
def gV : aI := { np := 1, ns := 4, res := [⟨1, none⟩], rsh := [[.a]], body := (.seq (rg [gm (cb false)] [(1, 0)]) (.seq (rg [gm s0, gx 495 [l0] [[.a]], gm l1, ge l2 0, ge l2 1, gb 1 (.c (.agg [.av])), gt 1 l5 l3, gm l4] [(3, 5), (2, 7)]) (.seq (rg [gm s2, gn (bA l0 (i6 0)), gm l1, ⟨.ld 1 true s3, some (2, true)⟩, ⟨.call 496 [l3] [[.sl 1 [.sl 7 [.a, .a, .a, .a, .a, .a, .a]]]], some (2, true)⟩, ⟨.mv s0, some (2, true)⟩, ⟨.bin .eql l4 l5, some (2, true)⟩, gn (.pick l2 l6 (cb false)), gm l7] [(1, 8)]) .ret))) }
theorem w444 {Γ : Ctx} (hm : (Γ.at 0).bN) (h495 : GN (Γ.at 0)) (h496 : GO (Γ.at 0)) (s : aq)  (hp0 : s.length ≤ 1048576) : bo (Γ.at 0) gV.body (eC gV (.bool (rh s)) : Ex → List aN → St → Prop) (bF gV [.str s]) ⟨0, []⟩ := by
 show bo _ _ _ [⟨true, .str s⟩, .un, .un, .un] ⟨0, []⟩
 refine aw ?_
 refine ae ?_
 refine ai [(1, ⟨_, .bool _⟩)] ?_
 iterate 2 refine ae ?_
 refine ay (hc := h495 s hp0) ?_
 refine ae ?_
 refine bg (fM _) ?_
 refine bg (.int _ _) ?_
 refine aZ ?_
 refine aM (fM (iw s).1) (he := by exact rfl) ?_
 refine ae ?_
 refine ai [(2, ⟨_, .int _ _⟩), (3, ⟨_, _⟩)] ?_
 iterate 2 refine ae ?_
 refine aQ ?_
 refine ae ?_
 refine bG (d := fM (iw s).1) ?_
 refine jN (hc := fun hf => h496 (iw s).1 DM.1) ?_
 refine ae ?_
 refine cH ?_
 refine bK ?_
 refine ae ?_
 refine ai [(1, ⟨_, .bool _⟩)] ?_
 refine ae ?_
 refine aB (congrArg D.bool ?_)
 rfl
def Gy (Γ : Ctx) : Prop := ∀ (s : aq), (s.length ≤ 1048576) → Γ.pre 444 [.str s] ∧ Γ.val 444 [.str s] = .bool (rh s)
end Go.Abs
end
section
namespace Go.Abs
open Go
def D2 (Γ : Ctx) (u : Nat) : Prop := ∀ (l : List Nd) (i : Int) (b : Bool), (fo l ∧ l.length ≤ 15 ∧ 0 ≤ i ∧ i < l.length) → 2 * i.toNat + 1 < u → Γ.pre 951 [.sl 5 (l.map Nd.D), .int .i64 i, .bool b] ∧ Γ.val 951 [.sl 5 (l.map Nd.D), .int .i64 i, .bool b] = .str (js (kj l i) b)
def GY (Γ : Ctx) : Prop := ∀ (l : List Nd) (i : Int), (fo l ∧ l.length ≤ 15 ∧ 0 ≤ i ∧ i < l.length) → Γ.pre 811 [.sl 5 (l.map Nd.D), .int .i64 i] ∧ Γ.val 811 [.sl 5 (l.map Nd.D), .int .i64 i] = .str (kj l i)
def Az (Γ : Ctx) (u : Nat) : Prop := ∀ (l : List Nd) (i : Int), (fo l ∧ l.length ≤ 15 ∧ 0 ≤ i ∧ i < l.length) → 2 * i.toNat < u → Γ.pre 811 [.sl 5 (l.map Nd.D), .int .i64 i] ∧ Γ.val 811 [.sl 5 (l.map Nd.D), .int .i64 i] = .str (kj l i)
def mO : aI := { np := 0, ns := 1, res := [⟨0, none⟩], rsh := [[.sl 1 [.a]]], body := (.seq (rg [gm (.c (.av))] [(0, 0)]) (.seq (rg [gn (.bsl 1 (.str []) 3 [(0, (cs [111, 115])), (1, (cs [97, 114, 99, 104])), (2, (cs [97, 98, 105]))]), gm l0] [(0, 1)]) .ret)) }
theorem w950 {Γ : Ctx} (hm : (Γ.at 0).bN)     : bo (Γ.at 0) mO.body (eC mO (.sl 1 (lD.map D.str)) : Ex → List aN → St → Prop) (bF mO []) ⟨0, []⟩ := by
 show bo _ _ _ [.un] ⟨0, []⟩
 refine aw ?_
 refine ae ?_
 refine ai [(0, ⟨_, .av⟩)] ?_
 refine ae ?_
 refine dK [(.str _), (.str _), (.str _)] ?_
 refine ae ?_
 refine ai [(0, ⟨_, .own _ _ _ _⟩)] ?_
 refine ij 1 ?_
 refine ae ?_
 refine aB (?_)
 rfl
def EP (Γ : Ctx) : Prop := Γ.pre 950 [] ∧ Γ.val 950 [] = .sl 1 (lD.map D.str)
def mN : aI := { np := 3, ns := 5, res := [⟨3, none⟩], rsh := [[.a]], body := (.seq (rg [gm (cs [])] [(3, 0)]) (.seq (.seq (rg [gm s2] [(4, 0)]) (.cond s4 (.seq (rg [gm s0, gm s1, gx 811 [l0, l1] [[.sl 5 [.a, .a, .a, .a, .a]], [.a]], gn (bh (cs [40, 32]) l2), gn (bh l3 (cs [32, 41])), gm l4] [(3, 5)]) .ret) .skip)) (.seq (rg [gm s0, gm s1, gx 811 [l0, l1] [[.sl 5 [.a, .a, .a, .a, .a]], [.a]], gm l2] [(3, 3)]) .ret))) }
theorem w951 {Γ : Ctx} (hm : (Γ.at 0).bN)  (l : List Nd) (i : Int) (b : Bool) (h811 : Az (Γ.at 0) (2 * i.toNat + 1)) (hp0 : fo l ∧ l.length ≤ 15 ∧ 0 ≤ i ∧ i < l.length) : bo (Γ.at 0) mN.body (eC mN (.str (js (kj l i) b)) : Ex → List aN → St → Prop) (bF mN [.sl 5 (l.map Nd.D), .int .i64 i, .bool b]) ⟨0, []⟩ := by
 show bo _ _ _ [⟨true, .sl 5 (l.map Nd.D)⟩, ⟨true, .int .i64 i⟩, ⟨true, .bool b⟩, .un, .un] ⟨0, []⟩
 have htl := sN hp0.1 hp0.2.1 hp0.2.2.1 hp0.2.2.2
 refine aw ?_
 refine ae ?_
 refine ai [(3, ⟨_, .str _⟩)] ?_
 iterate 3 refine ae ?_
 refine ai [(4, ⟨_, .bool _⟩)] ?_
 refine ak (fun hc0 => ?_) (fun hc0 => ?_)
 ·try simp only [au] at hc0
  iterate 4 refine ae ?_
  refine ay (hc := h811 l i hp0 (by omega)) ?_
  refine cq (hb := fun _ => by simp only [List.length_append, List.length_cons, List.length_nil]; omega) ?_
  refine cq (hb := fun _ => by simp only [List.length_append, List.length_cons, List.length_nil]; omega) ?_
  refine ae ?_
  refine ai [(3, ⟨_, .str _⟩)] ?_
  refine ae ?_
  refine aB (congrArg D.str ?_)
  simp [js, hc0]
 ·try simp only [au] at hc0
  iterate 4 refine ae ?_
  refine ay (hc := h811 l i hp0 (by omega)) ?_
  refine ae ?_
  refine ai [(3, ⟨_, .str _⟩)] ?_
  refine ae ?_
  refine aB (congrArg D.str ?_)
  simp [js, hc0]
def mP : aI := { np := 2, ns := 10, res := [⟨2, none⟩], rsh := [[.a]], body := (.seq (rg [gm (cs [])] [(2, 0)]) (.seq (rg [gm s0, gm s1, ga 5 l0 l1, gk 5 true l2, gb 5 (.c (.agg [.int .i64 0, .int .i64 0, .int .i64 0, .int .i64 0, .str []])), gt 5 l4 l3] [(3, 4)]) (.seq (.seq (rg [gf 0 s3, gd l0] [(4, 1)]) (.block 0 (.seq (rg [gn (bA s4 (i6 1)), gm l0] [(5, 1)]) (.cond s5 (.seq (rt [gx 950 [] [], gf 3 s3, gd l1, ga 1 l0 l2, gd l3, gn (bh l4 (cs [32, 61, 32])), gf 4 s3, gd l6, gn (bh l5 l7), gm l8] [(2, 9)]) .ret) (.seq (rg [gn (bA s4 (i6 2)), gm l0] [(6, 1)]) (.cond s6 (.seq (rg [gm s0, gf 1 s3, gd l1, ga 5 l0 l2, gk 5 true l3, gb 5 (.c (.agg [.int .i64 0, .int .i64 0, .int .i64 0, .int .i64 0, .str []])), gt 5 l5 l4] [(7, 5)]) (.seq (.seq (rg [gf 0 s7, gd l0, gn (bA l1 (i6 1))] [(8, 2)]) (.cond s8 (.seq (rt [gx 950 [] [], gf 3 s7, gd l1, ga 1 l0 l2, gd l3, gn (bh l4 (cs [32, 33, 61, 32])), gf 4 s7, gd l6, gn (bh l5 l7), gm l8] [(2, 9)]) .ret) .skip)) (.seq (rg [gm s0, gf 1 s3, gd l1, gf 0 s7, gd l3, gn (cN l4 (i6 2)), gx 951 [l0, l2, l5] [[.sl 5 [.a, .a, .a, .a, .a]], [.a], [.a]], gn (bh (cs [110, 111, 116, 32]) l6), gm l7] [(2, 8)]) .ret))) (.seq (rg [gn (bA s4 (i6 3)), gm l0] [(9, 1)]) (.cond s9 (.seq (rt [gm s0, gf 1 s3, gd l1, gm s0, gf 1 s3, gd l4, ga 5 l3 l5, gf 0 l6, gd l7, gn (bA l8 (i6 4)), gx 951 [l0, l2, l9] [[.sl 5 [.a, .a, .a, .a, .a]], [.a], [.a]], gn (bh l10 (cs [32, 97, 110, 100, 32])), gm s0, gf 2 s3, gd nB, gm s0, gf 2 s3, gd qm, ga 5 oN rT, gf 0 rU, gd tK, gn (bA vz (i6 4)), gm wi, ⟨.mv s0, some (22, false)⟩, ⟨.fa 2 s3, some (22, false)⟩, ⟨.ld 1 false zK, some (22, false)⟩, ⟨.ia 5 yI At, some (22, false)⟩, ⟨.fa 0 Di, some (22, false)⟩, ⟨.ld 1 false Fi, some (22, false)⟩, ⟨.bin .eql F1 (i6 3), some (22, false)⟩, gn (.pick xf (cb true) F2), gx 951 [lJ, nW, HN] [[.sl 5 [.a, .a, .a, .a, .a]], [.a], [.a]], gn (bh kl HO), gm HP] [(2, 33)]) .ret) .skip)))))))) (.seq (rt [gm s0, gf 1 s3, gd l1, gx 811 [l0, l2] [[.sl 5 [.a, .a, .a, .a, .a]], [.a]], gn (bh l3 (cs [32, 111, 114, 32])), gm s0, gf 2 s3, gd l6, gm s0, gf 2 s3, gd l9, ga 5 l8 l10, gf 0 kl, gd lJ, gn (bA nB (i6 4)), gx 951 [l5, l7, nW] [[.sl 5 [.a, .a, .a, .a, .a]], [.a], [.a]], gn (bh l4 oN), gm qm] [(2, 17)]) .ret)))) }
theorem w811 {Γ : Ctx} (hm : (Γ.at 0).bN) (h950 : EP (Γ.at 0)) (l : List Nd) (i : Int) (h811 : Az (Γ.at 0) (2 * i.toNat)) (h951 : D2 (Γ.at 0) (2 * i.toNat)) (hp0 : fo l ∧ l.length ≤ 15 ∧ 0 ≤ i ∧ i < l.length) : bo (Γ.at 0) mP.body (eC mP (.str (kj l i)) : Ex → List aN → St → Prop) (bF mP [.sl 5 (l.map Nd.D), .int .i64 i]) ⟨0, []⟩ := by
 show bo _ _ _ [⟨true, .sl 5 (l.map Nd.D)⟩, ⟨true, .int .i64 i⟩, .un, .un, .un, .un, .un, .un, .un, .un] ⟨0, []⟩
 obtain ⟨hk, hl15, hi0, hi1⟩ := hp0
 have htx := DV hk hi0 hi1
 obtain ⟨k1, k2, k3⟩ := hk i.toNat (by omega)
 refine aw ?_
 refine ae ?_
 refine ai [(2, ⟨_, .str _⟩)] ?_
 iterate 3 refine ae ?_
 first | refine aP _ ?_ | refine br ?_
 first | refine aS (v := (Nd.D _)) ?_ | refine bH (v := (Nd.D _)) ?_
 refine aZ ?_
 refine aM _ ?_
 refine ai [(3, ⟨_, _⟩)] ?_
 iterate 3 refine ae ?_
 refine aj (v := (.int _ _)) ?_
 refine ai [(4, ⟨_, .int _ _⟩)] ?_
 refine ax ?_ hm
 refine ae ?_
 refine aQ ?_
 refine ae ?_
 refine ai [(5, ⟨_, .bool _⟩)] ?_
 refine wp_cond (fun hc0 => ?_) (fun hc0 => ?_)
 ·simp only [decide_eq_true_eq] at hc0
  have k1 := k1 hc0
  have hkl := oM l[i.toNat]!.key
  refine ae ?_
  refine ay (hc := h950 ) ?_
  refine ae ?_
  refine aj (v := (.int _ _)) ?_
  refine aP l[i.toNat]!.key.toNat (hb := fun _ => by show _ < 3; omega) ?_
  refine aS (q := D.str) (xs := lD) (hi := fun _ => by show _ < 3; omega) (i := l[i.toNat]!.key.toNat) (k := 1) (o := 0) (v := (.str (uS l[i.toNat]!.key))) (hv := fun _ => congrArg D.str (tJ k1.1 k1.2.1)) ?_
  refine cq (hb := fun _ => by simp only [List.length_append, List.length_cons, List.length_nil]; omega) ?_
  refine ae ?_
  refine aj (v := (.str _)) ?_
  refine cq (hb := fun _ => by simp only [List.length_append, List.length_cons, List.length_nil]; omega) ?_
  refine ae ?_
  refine ai [(2, ⟨_, .str _⟩)] ?_
  iterate 2 refine ae ?_
  refine aB (congrArg D.str ?_)
  rw [htx, if_pos hc0]
 ·simp only [decide_eq_false_iff_not] at hc0
  have ka := k2 hc0
  have hla := sN hk hl15 (i := l[i.toNat]!.a) (by omega) (by omega)
  have hwa := fun b => nb (kj l l[i.toNat]!.a) b
  refine ae ?_
  refine aQ ?_
  refine ae ?_
  refine ai [(6, ⟨_, .bool _⟩)] ?_
  refine wp_cond (fun hc1 => ?_) (fun hc1 => ?_)
  ·simp only [decide_eq_true_eq] at hc1
   iterate 3 refine ae ?_
   refine aj (v := (.int _ _)) ?_
   refine aP l[i.toNat]!.a.toNat ?_
   first | refine aS (v := (Nd.D _)) ?_ | refine bH (v := (Nd.D _)) ?_
   refine aZ ?_
   refine aM _ ?_
   refine ai [(7, ⟨_, _⟩)] ?_
   iterate 3 refine ae ?_
   refine aj (v := (.int _ _)) ?_
   refine aQ ?_
   refine ai [(8, ⟨_, .bool _⟩)] ?_
   refine ak (fun hc2 => ?_) (fun hc2 => ?_)
   ·simp only [decide_eq_true_eq] at hc2
    have k4 := (hk l[i.toNat]!.a.toNat (by omega)).1 hc2
    have hkl := oM l[l[i.toNat]!.a.toNat]!.key
    iterate 2 refine ae ?_
    refine ay (hc := h950 ) ?_
    refine ae ?_
    refine aj (v := (.int _ _)) ?_
    refine aP l[l[i.toNat]!.a.toNat]!.key.toNat (hb := fun _ => by show _ < 3; omega) ?_
    refine aS (q := D.str) (xs := lD) (hi := fun _ => by show _ < 3; omega) (i := l[l[i.toNat]!.a.toNat]!.key.toNat) (k := 1) (o := 0) (v := (.str (uS l[l[i.toNat]!.a.toNat]!.key))) (hv := fun _ => congrArg D.str (tJ k4.1 k4.2.1)) ?_
    refine cq (hb := fun _ => by simp only [List.length_append, List.length_cons, List.length_nil]; omega) ?_
    refine ae ?_
    refine aj (v := (.str _)) ?_
    refine cq (hb := fun _ => by simp only [List.length_append, List.length_cons, List.length_nil]; omega) ?_
    refine ae ?_
    refine ai [(2, ⟨_, .str _⟩)] ?_
    iterate 2 refine ae ?_
    refine aB (congrArg D.str ?_)
    rw [htx, if_neg hc0, if_pos hc1, if_pos hc2]
   ·try simp only [au] at hc2
    iterate 4 refine ae ?_
    refine aj (v := (.int _ _)) ?_
    refine ae ?_
    refine aj (v := (.int _ _)) ?_
    refine bU ?_
    refine ay (hc := h951 l l[i.toNat]!.a _ ⟨hk, hl15, by omega, by omega⟩ (by omega)) ?_
    have hwx := hwa (!decide (l[l[i.toNat]!.a.toNat]!.op = 2))
    refine cq (hb := fun _ => by simp only [List.length_append, List.length_cons, List.length_nil]; omega) ?_
    refine ae ?_
    refine ai [(2, ⟨_, .str _⟩)] ?_
    iterate 2 refine ae ?_
    refine aB (congrArg D.str ?_)
    rw [htx, if_neg hc0, if_pos hc1, if_neg hc2]
  ·simp only [decide_eq_false_iff_not] at hc1
   have kb := k3 hc0 hc1
   have hlb := sN hk hl15 (i := l[i.toNat]!.b) (by omega) (by omega)
   have hwb := fun b => nb (kj l l[i.toNat]!.b) b
   refine ae ?_
   refine aQ ?_
   refine ae ?_
   refine ai [(9, ⟨_, .bool _⟩)] ?_
   refine wp_cond (fun hc3 => ?_) (fun hc3 => ?_)
   ·try simp only [au] at hc3
    iterate 3 refine ae ?_
    refine aj (v := (.int _ _)) ?_
    iterate 2 refine ae ?_
    refine aj (v := (.int _ _)) ?_
    refine aP l[i.toNat]!.a.toNat ?_
    refine ez ?_
    first | refine aS (v := (.int _ _)) ?_ | refine bH (v := (.int _ _)) ?_
    refine aQ ?_
    refine ay (hc := h951 l l[i.toNat]!.a _ ⟨hk, hl15, by omega, by omega⟩ (by omega)) ?_
    have hwx := hwa (decide (l[l[i.toNat]!.a.toNat]!.op = 4))
    refine cq (hb := fun _ => by simp only [List.length_append, List.length_cons, List.length_nil]; omega) ?_
    iterate 2 refine ae ?_
    refine aj (v := (.int _ _)) ?_
    iterate 2 refine ae ?_
    refine aj (v := (.int _ _)) ?_
    refine aP l[i.toNat]!.b.toNat ?_
    refine ez ?_
    first | refine aS (v := (.int _ _)) ?_ | refine bH (v := (.int _ _)) ?_
    refine aQ ?_
    iterate 3 refine ae ?_
    refine aj (v := (.int _ _)) ?_
    refine aP l[i.toNat]!.b.toNat ?_
    refine ez ?_
    first | refine aS (v := (.int _ _)) ?_ | refine bH (v := (.int _ _)) ?_
    refine aQ ?_
    refine bY ?_
    refine ay (hc := h951 l l[i.toNat]!.b _ ⟨hk, hl15, by omega, by omega⟩ (by omega)) ?_
    have hwy := hwb (decide (l[l[i.toNat]!.b.toNat]!.op = 4) || decide (l[l[i.toNat]!.b.toNat]!.op = 3))
    refine cq (hb := fun _ => by simp only [List.length_append, List.length_cons, List.length_nil]; omega) ?_
    refine ae ?_
    refine ai [(2, ⟨_, .str _⟩)] ?_
    iterate 2 refine ae ?_
    refine aB (congrArg D.str ?_)
    rw [htx, if_neg hc0, if_neg hc1, if_pos hc3]
   ·try simp only [au] at hc3
    iterate 5 refine ae ?_
    refine aj (v := (.int _ _)) ?_
    refine ay (hc := h811 l l[i.toNat]!.a ⟨hk, hl15, by omega, by omega⟩ (by omega)) ?_
    refine cq (hb := fun _ => by simp only [List.length_append, List.length_cons, List.length_nil]; omega) ?_
    iterate 2 refine ae ?_
    refine aj (v := (.int _ _)) ?_
    iterate 2 refine ae ?_
    refine aj (v := (.int _ _)) ?_
    refine aP l[i.toNat]!.b.toNat ?_
    refine ez ?_
    first | refine aS (v := (.int _ _)) ?_ | refine bH (v := (.int _ _)) ?_
    refine aQ ?_
    refine ay (hc := h951 l l[i.toNat]!.b _ ⟨hk, hl15, by omega, by omega⟩ (by omega)) ?_
    have hwy := hwb (decide (l[l[i.toNat]!.b.toNat]!.op = 4))
    refine cq (hb := fun _ => by simp only [List.length_append, List.length_cons, List.length_nil]; omega) ?_
    refine ae ?_
    refine ai [(2, ⟨_, .str _⟩)] ?_
    refine ae ?_
    refine aB (congrArg D.str ?_)
    rw [htx, if_neg hc0, if_neg hc1, if_neg hc3]
end Go.Abs
end
section
namespace Go.Abs
open Go
end Go.Abs
end
section
namespace Go.Abs
open Go
def mQ : aI := { np := 1, ns := 18, res := [⟨1, none⟩], rsh := [[.a]], body := (.seq (rg [gm (cb false)] [(1, 0)]) (.seq (.seq (rg [gm s0, gl l0, gn (fN l1 (i6 15))] [(2, 2)]) (.cond s2 (.seq (rg [gm (cb false)] [(1, 0)]) .ret) .skip)) (.seq (rg [gm s0, gl l0, gn (.mks 1 (.int .i64 0) l1 l1), gm l2] [(7, 3)]) (.seq (.seq (rg [gm s0, gl l0, gm (i6 0)] [(6, 0), (4, 1), (3, 2)]) (.block 0 (.loop (.seq (rg [gn (bQ s3 s4)] [(5, 0)]) (.seq (.cond s5 .skip (.exit 0)) (.seq (.block 1 (.seq (rg [gm s3, ga 5 s6 s3, gk 5 true l1, gb 5 (.c (.agg [.int .i64 0, .int .i64 0, .int .i64 0, .int .i64 0, .str []])), gm l0, gt 5 l3 l2] [(9, 3), (8, 4)]) (.seq (rg [gm s7, gm s8, gm s8, ga 1 l0 l1, gt 1 l3 l2] []) (.seq (.seq (rg [gf 0 s9, gd l0] [(10, 1)]) (.block 2 (.seq (rg [gn (bA kF (i6 1)), gm l0] [(11, 1)]) (.cond mV (.seq (.seq (rg [gf 3 s9, gd l0, gn (bQ l1 (i6 0)), gm l2, ⟨.fa 3 s9, some (3, false)⟩, ⟨.ld 1 false l4, some (3, false)⟩, ⟨.bin .geq l5 (i6 3), some (3, false)⟩, gn (.pick l3 (cb true) l6), gm l7, ⟨.fa 4 s9, some (8, false)⟩, ⟨.ld 1 false l9, some (8, false)⟩, ⟨.call 349 [l10] [[.a]], some (8, false)⟩, ⟨.un .not kl, some (8, false)⟩, gn (.pick l8 (cb true) lJ), gm nB, ⟨.fa 1 s9, some (14, false)⟩, ⟨.ld 1 false oN, some (14, false)⟩, ⟨.bin .neq qm (i6 0), some (14, false)⟩, gn (.pick nW (cb true) rT), gm rU, ⟨.fa 2 s9, some (19, false)⟩, ⟨.ld 1 false vz, some (19, false)⟩, ⟨.bin .neq wi (i6 0), some (19, false)⟩, gn (.pick tK (cb true) xf)] [(12, 23)]) (.cond jV (.seq (rg [gm (cb false)] [(1, 0)]) .ret) .skip)) (.exit 1)) (.seq (rg [gn (bA kF (i6 2)), gm l0] [(13, 1)]) (.cond ri (.seq (.seq (rg [gm s8, gn (bQ l0 (i6 1)), gm l1, ⟨.fa 1 s9, some (2, false)⟩, ⟨.ld 1 false l3, some (2, false)⟩, ⟨.mv s8, some (2, false)⟩, ⟨.bin .sub l5 (i6 1), some (2, false)⟩, ⟨.bin .neq l4 l6, some (2, false)⟩, gn (.pick l2 (cb true) l7), gm l8, ⟨.fa 2 s9, some (9, false)⟩, ⟨.ld 1 false l10, some (9, false)⟩, ⟨.bin .neq kl (i6 0), some (9, false)⟩, gn (.pick l9 (cb true) lJ)] [(14, 13)]) (.cond vj (.seq (rg [gm (cb false)] [(1, 0)]) .ret) .skip)) (rg [gm s7, gm s8, gm s7, gm s8, gn (lP l3 (i6 1)), ga 1 l2 l4, gd l5, ga 1 l0 l1, gt 1 l7 l6] [])) (.seq (.seq (rg [gn (bA kF (i6 3)), gm l0] [(15, 1)]) (.cond sE .skip (rg [gn (bA kF (i6 4)), gm l0] [(15, 1)]))) (.cond sE (.seq (.seq (rt [gm s8, gn (bQ l0 (i6 2)), gm l1, ⟨.fa 2 s9, some (2, false)⟩, ⟨.ld 1 false l3, some (2, false)⟩, ⟨.mv s8, some (2, false)⟩, ⟨.bin .sub l5 (i6 1), some (2, false)⟩, ⟨.bin .neq l4 l6, some (2, false)⟩, gn (.pick l2 (cb true) l7), gm l8, ⟨.mv s7, some (9, false)⟩, ⟨.mv s8, some (9, false)⟩, ⟨.bin .sub kl (i6 1), some (9, false)⟩, ⟨.ia 1 l10 lJ, some (9, false)⟩, ⟨.ld 1 false nB, some (9, false)⟩, ⟨.bin .lss nW (i6 1), some (9, false)⟩, gn (.pick l9 (cb true) oN), gm qm, ⟨.fa 1 s9, some (17, false)⟩, ⟨.ld 1 false rU, some (17, false)⟩, ⟨.mv s7, some (17, false)⟩, ⟨.mv s8, some (17, false)⟩, ⟨.bin .sub wi (i6 1), some (17, false)⟩, ⟨.ia 1 vz xf, some (17, false)⟩, ⟨.ld 1 false yI, some (17, false)⟩, ⟨.bin .sub zK (i6 1), some (17, false)⟩, ⟨.bin .neq tK At, some (17, false)⟩, gn (.pick rT (cb true) Di)] [(16, 27)]) (.cond y6 (.seq (rg [gm (cb false)] [(1, 0)]) .ret) .skip)) (rg [gm s7, gm s8, gm s7, gf 1 s9, gd l3, ga 1 l2 l4, gd l5, ga 1 l0 l1, gt 1 l7 l6] [])) (.seq (rg [gm (cb false)] [(1, 0)]) .ret))))))))) (.seq (rg [gf 3 s9, gd l0, gn (cN l1 (i6 0)), gm l2, ⟨.fa 4 s9, some (3, false)⟩, ⟨.ld 1 false l4, some (3, false)⟩, ⟨.bin .neq l5 (cs []), some (3, false)⟩, gn (.pick l3 (cb true) l6)] [(17, 7)]) (.cond wS (.seq (rg [gm (cb false)] [(1, 0)]) .ret) .skip)))))) (rg [gn (bh s3 (i6 1)), gm l0] [(3, 1)]))))))) (.seq (rg [gm s0, gl l0, gn (bA l1 (i6 0)), gm l2, ⟨.mv s7, some (3, false)⟩, ⟨.mv s0, some (3, false)⟩, ⟨.len l5, some (3, false)⟩, ⟨.bin .sub l6 (i6 1), some (3, false)⟩, ⟨.ia 1 l4 l7, some (3, false)⟩, ⟨.ld 1 false l8, some (3, false)⟩, ⟨.bin .eql l9 (i6 0), some (3, false)⟩, gn (.pick l3 (cb true) l10), gm kl] [(1, 12)]) .ret))))) }
theorem w810 {Γ : Ctx} (hm : (Γ.at 0).bN) (h349 : xh (Γ.at 0)) (l : List Nd)   : bo (Γ.at 0) mQ.body (eC mQ (.bool (decide (l.length ≤ 15) && mz l)) : Ex → List aN → St → Prop) (bF mQ [.sl 5 (l.map Nd.D)]) ⟨0, []⟩ := by
 show bo _ _ _ [⟨true, .sl 5 (l.map Nd.D)⟩, .un, .un, .un, .un, .un, .un, .un, .un, .un, .un, .un, .un, .un, .un, .un, .un, .un] ⟨0, []⟩
 refine aw ?_
 refine ae ?_
 refine ai [(1, ⟨_, .bool _⟩)] ?_
 iterate 3 refine ae ?_
 refine aC fun u0 => ?_; specialize u0 rfl rfl
 refine bE ?_
 refine ai [(2, ⟨_, .bool _⟩)] ?_
 refine ak (fun hc0 => ?_) (fun hc0 => ?_)
 ·try simp only [au] at hc0
  iterate 3 refine ae ?_
  refine ai [(1, ⟨_, .bool _⟩)] ?_
  refine ae ?_
  refine aB (congrArg D.bool ?_)
  rw [show decide (l.length ≤ 15) = false from decide_eq_false (by omega)]; rfl
 ·simp only [decide_eq_false_iff_not] at hc0
  have h15 : l.length ≤ 15 := by omega
  have hd15 : decide (l.length ≤ 15) = true := decide_eq_true h15
  iterate 3 refine ae ?_
  refine aC fun u1 => ?_; specialize u1 rfl rfl
  refine H2 l.length ?_
  refine ae ?_
  refine ai [(7, ⟨_, .own _ _ _ _⟩)] ?_
  iterate 3 refine ae ?_
  refine aC fun u2 => ?_; specialize u2 rfl rfl
  refine ae ?_
  refine ai [(3, ⟨_, .int _ _⟩), (4, ⟨_, .int _ _⟩), (6, ⟨_, .sl _ _⟩)] ?_
  rw [show List.replicate l.length (D.int .i64 0) = (List.replicate l.length (0 : Int)).map (D.int .i64) by simp]
  refine bz hm (ι := (Nat × List Int × List Int)) (fun p => [⟨true, .sl 5 (l.map Nd.D)⟩, .un, .un, ⟨true, .int .i64 (p.1 : Nat)⟩, ⟨true, .int .i64 (l.length : Nat)⟩, .un, ⟨true, .sl 5 (l.map Nd.D)⟩, ⟨true, .own 0 1 0 l.length⟩, .un, .un, .un, .un, .un, .un, .un, .un, .un, .un]) (fun p => [(0, .buf 1 (p.2.1.map (D.int .i64)))]) 11 (fun p => p.1 ≤ l.length ∧ p.2.1.length = l.length ∧ vy p.2.1 (p.1 : Nat) p.2.2.reverse ∧ jM l 0 [] = jM (l.drop p.1) p.1 p.2.2) (fun p => l.length - p.1) (0, List.replicate l.length 0, []) ⟨by simp, by simp, rfl, by simp⟩ (az.to [(6, 0)] ah ah aX (by refine aV.nl 6 ah ah ah eK ?_; exact aV.nil)) ?_
  rintro ⟨i, S, o⟩ ⟨hi, hS, hc, hr⟩
  dsimp only at hi hS hc hr ⊢
  refine ae ?_
  refine aW ?_
  refine ai [(5, ⟨_, .bool _⟩)] ?_
  refine ak (fun hc1 => ?_) (fun hc1 => ?_)
  ·try simp only [au] at hc1
   refine ae ?_
   refine ax ?_ hm
   iterate 2 refine ae ?_
   first | refine aP _ ?_ | refine br ?_
   first | refine aS (v := (Nd.D _)) ?_ | refine bH (v := (Nd.D _)) ?_
   refine aZ ?_
   refine ae ?_
   refine aM (Nd.D l[i]!) (he := by exact rfl) ?_
   refine ai [(8, ⟨_, .int _ _⟩), (9, ⟨_, _⟩)] ?_
   iterate 4 refine ae ?_
   refine lE i ?_
   refine yU ((S.set i (i : Int)).map (D.int .i64)) (hi := by simp; omega) (he := rj (by omega) _) ?_
   have hch : vy (S.set i (i : Int)) (i : Nat) o.reverse := uJ (Int.le_refl _) hc
   have hSl : (S.set i (i : Int)).length = l.length := by simp [hS]
   refine ai [] ?_
   iterate 3 refine ae ?_
   refine aj (v := (.int _ _)) ?_
   refine ai [(10, ⟨_, .int _ _⟩)] ?_
   refine ax ?_ hm
   refine ae ?_
   obtain ⟨t1, t2⟩ := oy hch
   obtain ⟨u1, u2⟩ := uK hch
   refine aQ ?_
   refine ae ?_
   refine ai [(11, ⟨_, .bool _⟩)] ?_
   refine wp_cond (fun hc2 => ?_) (fun hc2 => ?_)
   ·simp only [decide_eq_true_eq] at hc2
    have hq1 := hc2
    iterate 3 refine ae ?_
    refine aj (v := (.int _ _)) ?_
    refine aW ?_
    iterate 2 refine ae ?_
    refine aj (v := (.int _ _)) ?_
    refine iv ?_
    refine bY ?_
    iterate 2 refine ae ?_
    refine aj (v := (.str _)) ?_
    refine ay (hc := h349 _) ?_
    refine ct ?_
    refine bY ?_
    iterate 2 refine ae ?_
    refine aj (v := (.int _ _)) ?_
    refine bU ?_
    refine bY ?_
    iterate 2 refine ae ?_
    refine aj (v := (.int _ _)) ?_
    refine bU ?_
    refine bY ?_
    refine ai [(12, ⟨_, .bool _⟩)] ?_
    refine ak (fun hc3 => ?_) (fun hc3 => ?_)
    ·have hlf : nC l[i]! = false := by rw [yK hq1, hc3]; rfl
     iterate 3 refine ae ?_
     refine ai [(1, ⟨_, .bool _⟩)] ?_
     iterate 4 refine ae ?_
     refine aB (congrArg D.bool ?_)
     rw [hd15]; symm; refine fH ?_; rw [hr]; refine dR (by omega) ?_; exact vk hq1 hlf
    ·have hlf : nC l[i]! = true := by rw [yK hq1, hc3]; rfl
     refine ae ?_
     refine wp_exit ?_
     refine BQ.other ah ?_
     refine BQ.out ?_
     refine ae ?_
     refine aF ?_
     refine ae ?_
     refine bL [(3, ⟨_, .int _ _⟩)] ?_
     refine ae ?_
     have hs : gF l[i]! i o = some (o ++ [(i : Int)]) := by exact yh hlf
     have hp : vy (S.set i (i : Int)) ((i + 1 : Nat) : Int) ((o ++ [(i : Int)])).reverse := by
      rw [List.reverse_append, List.reverse_singleton, List.singleton_append]
      exact ox (by omega) (by omega) (Int.le_refl _) hc
     exact ⟨(i + 1, (S.set i (i : Int)), (o ++ [(i : Int)])), ⟨by dsimp only; omega, by simp [hS], hp, by rw [hr]; exact jh (by omega) hs⟩, by dsimp only; omega, (az.to [(0, 0)] ah ah aX (by (first | refine aV.fR ah ah eK ?_ | refine aV.pH ah ah ah ?_ | refine aV.qj ah ah ah ah ?_); exact aV.nil))⟩
   ·simp only [decide_eq_false_iff_not] at hc2
    have hq1 := hc2
    refine ae ?_
    refine aQ ?_
    refine ae ?_
    refine ai [(13, ⟨_, .bool _⟩)] ?_
    refine wp_cond (fun hc4 => ?_) (fun hc4 => ?_)
    ·simp only [decide_eq_true_eq] at hc4
     have hq2 := hc4
     iterate 3 refine ae ?_
     refine aW ?_
     iterate 2 refine ae ?_
     refine aj (v := (.int _ _)) ?_
     refine ae ?_
     refine cA ?_
     refine bU ?_
     refine bY ?_
     iterate 2 refine ae ?_
     refine aj (v := (.int _ _)) ?_
     refine bU ?_
     refine bY ?_
     refine ai [(14, ⟨_, .bool _⟩)] ?_
     refine ak (fun hc5 => ?_) (fun hc5 => ?_)
     ·try simp only [au] at hc5
      iterate 3 refine ae ?_
      refine ai [(1, ⟨_, .bool _⟩)] ?_
      iterate 4 refine ae ?_
      refine aB (congrArg D.bool ?_)
      rw [hd15]; symm; refine fH ?_; rw [hr]; refine dR (by omega) ?_; rw [p7 hch hq2, if_neg]; rintro ⟨⟨g1, g2, g3⟩, g4⟩; omega
     ·simp only [Bool.or_eq_false_iff, decide_eq_false_iff_not, Bool.not_eq_false', decide_eq_true_eq] at hc5
      iterate 6 refine ae ?_
      refine cA ?_
      refine lE (i - 1) ?_
      refine qt (q := D.int .i64) (xs := (S.set i (i : Int))) (v := (.int .i64 (S.set i (i : Int))[i - 1]!)) (hi := fun _ => by omega) (hv := fun _ => by rw [Nat.zero_add]; rfl) ?_
      refine lE i ?_
      refine yU (((S.set i (i : Int)).set i (S.set i (i : Int))[i - 1]!).map (D.int .i64)) (hi := by simp; omega) (he := rj (by omega) _) ?_
      refine bL [] ?_
      iterate 3 refine ae ?_
      refine aj (v := (.int _ _)) ?_
      refine bU ?_
      iterate 2 refine ae ?_
      refine aj (v := (.str _)) ?_
      refine cn ?_
      refine bY ?_
      refine ai [(17, ⟨_, .bool _⟩)] ?_
      refine wp_cond (fun hc9 => ?_) (fun hc9 => ?_)
      ·have hb : gC l[i]! = false := by simp only [Bool.or_eq_true, Bool.not_eq_true', decide_eq_false_iff_not] at hc9; simp only [gC, Bool.and_eq_false_iff, decide_eq_false_iff_not]; exact hc9
       iterate 2 refine ae ?_
       refine ai [(1, ⟨_, .bool _⟩)] ?_
       iterate 3 refine ae ?_
       refine aB (congrArg D.bool ?_)
       rw [hd15]; symm; refine fH ?_; rw [hr]; refine dR (by omega) ?_; rw [p7 hch hq2, if_neg]; rintro ⟨⟨g1, g2, g3⟩, g4⟩; rw [hb] at g4; cases g4
      ·have hb : gC l[i]! = true := by simp only [Bool.or_eq_false_iff, Bool.not_eq_false', decide_eq_true_eq] at hc9; simp only [gC, hc9.1, hc9.2, decide_true, Bool.and_self]
       iterate 3 refine ae ?_
       refine aF ?_
       refine ae ?_
       refine bL [(3, ⟨_, .int _ _⟩)] ?_
       refine ae ?_
       have hs : gF l[i]! i o = some (o.take (o.length - 1) ++ [(i : Int)]) := by rw [p7 hch hq2, if_pos ⟨⟨by omega, by omega, by omega⟩, hb⟩]
       have hp : vy ((S.set i (i : Int)).set i (S.set i (i : Int))[i - 1]!) ((i + 1 : Nat) : Int) ((o.take (o.length - 1) ++ [(i : Int)])).reverse := by
        rw [List.reverse_append, List.reverse_singleton, List.singleton_append]
        obtain ⟨y1, y2, y3, y4⟩ := t2 (by omega)
        exact ox (by omega) y2 (by omega) y4
       exact ⟨(i + 1, ((S.set i (i : Int)).set i (S.set i (i : Int))[i - 1]!), (o.take (o.length - 1) ++ [(i : Int)])), ⟨by dsimp only; omega, by simp [hS], hp, by rw [hr]; exact jh (by omega) hs⟩, by dsimp only; omega, (az.to [(0, 0)] ah ah aX (by (first | refine aV.fR ah ah eK ?_ | refine aV.pH ah ah ah ?_ | refine aV.qj ah ah ah ah ?_); exact aV.nil))⟩
    ·simp only [decide_eq_false_iff_not] at hc4
     have hq2 := hc4
     iterate 2 refine ae ?_
     refine aQ ?_
     refine ae ?_
     refine ai [(15, ⟨_, .bool _⟩)] ?_
     refine ak (fun hc6 => ?_) (fun hc6 => ?_)
     ·try simp only [au] at hc6
      refine ae ?_
      refine wp_cond (fun hc7 => ?_) (fun hc7 => ?_)
      ·try simp only [au] at hc7
       iterate 3 refine ae ?_
       refine aW ?_
       iterate 2 refine ae ?_
       refine aj (v := (.int _ _)) ?_
       refine ae ?_
       refine cA ?_
       refine bU ?_
       refine bY ?_
       iterate 3 refine ae ?_
       refine cA ?_
       refine lE (i - 1) ?_
       refine qt (q := D.int .i64) (xs := (S.set i (i : Int))) (v := (.int .i64 (S.set i (i : Int))[i - 1]!)) (hi := fun h => by simp at h; omega) (hv := fun _ => by rw [Nat.zero_add]; rfl) ?_
       refine aW ?_
       refine bY ?_
       iterate 2 refine ae ?_
       refine aj (v := (.int _ _)) ?_
       iterate 2 refine ae ?_
       refine cA ?_
       refine lE (i - 1) ?_
       refine qt (q := D.int .i64) (xs := (S.set i (i : Int))) (v := (.int .i64 (S.set i (i : Int))[i - 1]!)) (hi := fun h => by simp at h; omega) (hv := fun _ => by rw [Nat.zero_add]; rfl) ?_
       refine cA ?_
       refine bU ?_
       refine bY ?_
       refine ai [(16, ⟨_, .bool _⟩)] ?_
       refine ak (fun hc8 => ?_) (fun hc8 => ?_)
       ·have hq34 : l[i]!.op = 3 ∨ l[i]!.op = 4 := by omega
        simp only [Bool.or_eq_true, decide_eq_true_eq, Bool.not_eq_true', decide_eq_false_iff_not] at hc8
        iterate 3 refine ae ?_
        refine ai [(1, ⟨_, .bool _⟩)] ?_
        iterate 4 refine ae ?_
        refine aB (congrArg D.bool ?_)
        rw [hd15]; symm; refine fH ?_; rw [hr]; refine dR (by omega) ?_; rw [iW hch hq34, if_neg]; rintro ⟨⟨g1, g2, g3, g4⟩, g5⟩; omega
       ·simp only [Bool.or_eq_false_iff, decide_eq_false_iff_not, Bool.not_eq_false', decide_eq_true_eq] at hc8
        have hq34 : l[i]!.op = 3 ∨ l[i]!.op = 4 := by omega
        have hk2 := u1.2 ⟨by omega, by omega⟩
        obtain ⟨w1, w2, w3, w4⟩ := u2 hk2
        obtain ⟨y1, y2, y3, y4⟩ := t2 (by omega)
        iterate 6 refine ae ?_
        refine aj (v := (.int _ _)) ?_
        refine lE l[i]!.a.toNat ?_
        refine qt (q := D.int .i64) (xs := (S.set i (i : Int))) (v := (.int .i64 (S.set i (i : Int))[l[i]!.a.toNat]!)) (hi := fun _ => by omega) (hv := fun _ => by rw [Nat.zero_add]; rfl) ?_
        refine lE i ?_
        refine yU (((S.set i (i : Int)).set i (S.set i (i : Int))[l[i]!.a.toNat]!).map (D.int .i64)) (hi := by simp; omega) (he := rj (by omega) _) ?_
        refine bL [] ?_
        iterate 3 refine ae ?_
        refine aj (v := (.int _ _)) ?_
        refine bU ?_
        iterate 2 refine ae ?_
        refine aj (v := (.str _)) ?_
        refine cn ?_
        refine bY ?_
        refine ai [(17, ⟨_, .bool _⟩)] ?_
        refine wp_cond (fun hc9 => ?_) (fun hc9 => ?_)
        ·have hb : gC l[i]! = false := by simp only [Bool.or_eq_true, Bool.not_eq_true', decide_eq_false_iff_not] at hc9; simp only [gC, Bool.and_eq_false_iff, decide_eq_false_iff_not]; exact hc9
         iterate 2 refine ae ?_
         refine ai [(1, ⟨_, .bool _⟩)] ?_
         iterate 3 refine ae ?_
         refine aB (congrArg D.bool ?_)
         rw [hd15]; symm; refine fH ?_; rw [hr]; refine dR (by omega) ?_; rw [iW hch hq34, if_neg]; rintro ⟨⟨g1, g2, g3, g4⟩, g5⟩; rw [hb] at g5; cases g5
        ·have hb : gC l[i]! = true := by simp only [Bool.or_eq_false_iff, Bool.not_eq_false', decide_eq_true_eq] at hc9; simp only [gC, hc9.1, hc9.2, decide_true, Bool.and_self]
         iterate 3 refine ae ?_
         refine aF ?_
         refine ae ?_
         refine bL [(3, ⟨_, .int _ _⟩)] ?_
         refine ae ?_
         have hs : gF l[i]! i o = some (o.take (o.length - 2) ++ [(i : Int)]) := by rw [iW hch hq34, if_pos ⟨⟨by omega, by omega, by omega, by omega⟩, hb⟩]
         have hp : vy ((S.set i (i : Int)).set i (S.set i (i : Int))[l[i]!.a.toNat]!) ((i + 1 : Nat) : Int) ((o.take (o.length - 2) ++ [(i : Int)])).reverse := by
          rw [List.reverse_append, List.reverse_singleton, List.singleton_append]
          rw [show l[i]!.a = (S.set i (i : Int))[i - 1]! - 1 by omega]
          exact ox (by omega) w2 (by omega) w4
         exact ⟨(i + 1, ((S.set i (i : Int)).set i (S.set i (i : Int))[l[i]!.a.toNat]!), (o.take (o.length - 2) ++ [(i : Int)])), ⟨by dsimp only; omega, by simp [hS], hp, by rw [hr]; exact jh (by omega) hs⟩, by dsimp only; omega, (az.to [(0, 0)] ah ah aX (by (first | refine aV.fR ah ah eK ?_ | refine aV.pH ah ah ah ?_ | refine aV.qj ah ah ah ah ?_); exact aV.nil))⟩
      ·try simp only [au] at hc7
       iterate 2 refine ae ?_
       refine ai [(1, ⟨_, .bool _⟩)] ?_
       iterate 4 refine ae ?_
       refine aB (congrArg D.bool ?_)
       exfalso; omega
     ·try simp only [au] at hc6
      refine ae ?_
      refine aQ ?_
      refine ae ?_
      refine ai [(15, ⟨_, .bool _⟩)] ?_
      refine wp_cond (fun hc7 => ?_) (fun hc7 => ?_)
      ·try simp only [au] at hc7
       iterate 3 refine ae ?_
       refine aW ?_
       iterate 2 refine ae ?_
       refine aj (v := (.int _ _)) ?_
       refine ae ?_
       refine cA ?_
       refine bU ?_
       refine bY ?_
       iterate 3 refine ae ?_
       refine cA ?_
       refine lE (i - 1) ?_
       refine qt (q := D.int .i64) (xs := (S.set i (i : Int))) (v := (.int .i64 (S.set i (i : Int))[i - 1]!)) (hi := fun h => by simp at h; omega) (hv := fun _ => by rw [Nat.zero_add]; rfl) ?_
       refine aW ?_
       refine bY ?_
       iterate 2 refine ae ?_
       refine aj (v := (.int _ _)) ?_
       iterate 2 refine ae ?_
       refine cA ?_
       refine lE (i - 1) ?_
       refine qt (q := D.int .i64) (xs := (S.set i (i : Int))) (v := (.int .i64 (S.set i (i : Int))[i - 1]!)) (hi := fun h => by simp at h; omega) (hv := fun _ => by rw [Nat.zero_add]; rfl) ?_
       refine cA ?_
       refine bU ?_
       refine bY ?_
       refine ai [(16, ⟨_, .bool _⟩)] ?_
       refine ak (fun hc8 => ?_) (fun hc8 => ?_)
       ·have hq34 : l[i]!.op = 3 ∨ l[i]!.op = 4 := by omega
        simp only [Bool.or_eq_true, decide_eq_true_eq, Bool.not_eq_true', decide_eq_false_iff_not] at hc8
        iterate 3 refine ae ?_
        refine ai [(1, ⟨_, .bool _⟩)] ?_
        iterate 4 refine ae ?_
        refine aB (congrArg D.bool ?_)
        rw [hd15]; symm; refine fH ?_; rw [hr]; refine dR (by omega) ?_; rw [iW hch hq34, if_neg]; rintro ⟨⟨g1, g2, g3, g4⟩, g5⟩; omega
       ·simp only [Bool.or_eq_false_iff, decide_eq_false_iff_not, Bool.not_eq_false', decide_eq_true_eq] at hc8
        have hq34 : l[i]!.op = 3 ∨ l[i]!.op = 4 := by omega
        have hk2 := u1.2 ⟨by omega, by omega⟩
        obtain ⟨w1, w2, w3, w4⟩ := u2 hk2
        obtain ⟨y1, y2, y3, y4⟩ := t2 (by omega)
        iterate 6 refine ae ?_
        refine aj (v := (.int _ _)) ?_
        refine lE l[i]!.a.toNat ?_
        refine qt (q := D.int .i64) (xs := (S.set i (i : Int))) (v := (.int .i64 (S.set i (i : Int))[l[i]!.a.toNat]!)) (hi := fun _ => by omega) (hv := fun _ => by rw [Nat.zero_add]; rfl) ?_
        refine lE i ?_
        refine yU (((S.set i (i : Int)).set i (S.set i (i : Int))[l[i]!.a.toNat]!).map (D.int .i64)) (hi := by simp; omega) (he := rj (by omega) _) ?_
        refine bL [] ?_
        iterate 3 refine ae ?_
        refine aj (v := (.int _ _)) ?_
        refine bU ?_
        iterate 2 refine ae ?_
        refine aj (v := (.str _)) ?_
        refine cn ?_
        refine bY ?_
        refine ai [(17, ⟨_, .bool _⟩)] ?_
        refine wp_cond (fun hc9 => ?_) (fun hc9 => ?_)
        ·have hb : gC l[i]! = false := by simp only [Bool.or_eq_true, Bool.not_eq_true', decide_eq_false_iff_not] at hc9; simp only [gC, Bool.and_eq_false_iff, decide_eq_false_iff_not]; exact hc9
         iterate 2 refine ae ?_
         refine ai [(1, ⟨_, .bool _⟩)] ?_
         iterate 3 refine ae ?_
         refine aB (congrArg D.bool ?_)
         rw [hd15]; symm; refine fH ?_; rw [hr]; refine dR (by omega) ?_; rw [iW hch hq34, if_neg]; rintro ⟨⟨g1, g2, g3, g4⟩, g5⟩; rw [hb] at g5; cases g5
        ·have hb : gC l[i]! = true := by simp only [Bool.or_eq_false_iff, Bool.not_eq_false', decide_eq_true_eq] at hc9; simp only [gC, hc9.1, hc9.2, decide_true, Bool.and_self]
         iterate 3 refine ae ?_
         refine aF ?_
         refine ae ?_
         refine bL [(3, ⟨_, .int _ _⟩)] ?_
         refine ae ?_
         have hs : gF l[i]! i o = some (o.take (o.length - 2) ++ [(i : Int)]) := by rw [iW hch hq34, if_pos ⟨⟨by omega, by omega, by omega, by omega⟩, hb⟩]
         have hp : vy ((S.set i (i : Int)).set i (S.set i (i : Int))[l[i]!.a.toNat]!) ((i + 1 : Nat) : Int) ((o.take (o.length - 2) ++ [(i : Int)])).reverse := by
          rw [List.reverse_append, List.reverse_singleton, List.singleton_append]
          rw [show l[i]!.a = (S.set i (i : Int))[i - 1]! - 1 by omega]
          exact ox (by omega) w2 (by omega) w4
         exact ⟨(i + 1, ((S.set i (i : Int)).set i (S.set i (i : Int))[l[i]!.a.toNat]!), (o.take (o.length - 2) ++ [(i : Int)])), ⟨by dsimp only; omega, by simp [hS], hp, by rw [hr]; exact jh (by omega) hs⟩, by dsimp only; omega, (az.to [(0, 0)] ah ah aX (by (first | refine aV.fR ah ah eK ?_ | refine aV.pH ah ah ah ?_ | refine aV.qj ah ah ah ah ?_); exact aV.nil))⟩
      ·try simp only [au] at hc7
       iterate 2 refine ae ?_
       refine ai [(1, ⟨_, .bool _⟩)] ?_
       iterate 4 refine ae ?_
       refine aB (congrArg D.bool ?_)
       rw [hd15]; symm; refine fH ?_; rw [hr]; refine dR (by omega) ?_; exact wV hq1 hq2 (by omega) (by omega)
  ·try simp only [au] at hc1
   iterate 3 refine ae ?_
   obtain rfl : i = l.length := by omega
   obtain ⟨t1, t2⟩ := oy hc
   obtain ⟨u1, u2⟩ := uK hc
   refine ae ?_
   refine aC fun u3 => ?_; specialize u3 rfl rfl
   refine aQ ?_
   iterate 3 refine ae ?_
   refine aC fun _ => ?_
   refine cA ?_
   refine lE (l.length - 1) (hj := fun h => by have hz : ¬ l.length = 0 := (fun hz => by simp [hz] at h); omega) (hb := fun h => by have hz : ¬ l.length = 0 := (fun hz => by simp [hz] at h); omega) ?_
   refine qt (q := D.int .i64) (xs := S) (v := (.int .i64 S[l.length - 1]!)) (hi := fun h => by have hz : ¬ l.length = 0 := (fun hz => by simp [hz] at h); omega) (hv := fun _ => by rw [Nat.zero_add]; rfl) ?_
   refine aQ ?_
   refine bY ?_
   refine ae ?_
   refine ai [(1, ⟨_, .bool _⟩)] ?_
   refine ae ?_
   refine aB (congrArg D.bool ?_)
   rw [hd15]; simp only [mz, hr, zW (Nat.le_refl l.length), Bool.true_and]; exact (B8 t1 t2 u1).symm
def GX (Γ : Ctx) : Prop := ∀ (l : List Nd), Γ.pre 810 [.sl 5 (l.map Nd.D)] ∧ Γ.val 810 [.sl 5 (l.map Nd.D)] = .bool (decide (l.length ≤ 15) && mz l)
end Go.Abs
end
section
namespace Go.Abs
open Go
def k9 : aI := { np := 1, ns := 3, res := [⟨1, none⟩], rsh := [[.a]], body := (.seq (rg [gm (cs [])] [(1, 0)]) (.seq (.seq (rg [gm s0, gl l0, gn (bA l1 (i6 0))] [(2, 2)]) (.cond s2 (.seq (rg [gm (cs [])] [(1, 0)]) .ret) .skip)) (.seq (rg [gm s0, gm s0, gl l1, gn (lP l2 (i6 1)), gx 811 [l0, l3] [[.sl 5 [.a, .a, .a, .a, .a]], [.a]], gm l4] [(1, 5)]) .ret))) }
theorem w662 {Γ : Ctx} (hm : (Γ.at 0).bN) (h811 : GY (Γ.at 0)) (l : List Nd)  (hp0 : fo l ∧ l.length ≤ 15) : bo (Γ.at 0) k9.body (eC k9 (.str (od l)) : Ex → List aN → St → Prop) (bF k9 [.sl 5 (l.map Nd.D)]) ⟨0, []⟩ := by
 show bo _ _ _ [⟨true, .sl 5 (l.map Nd.D)⟩, .un, .un] ⟨0, []⟩
 refine aw ?_
 refine ae ?_
 refine ai [(1, ⟨_, .str _⟩)] ?_
 iterate 3 refine ae ?_
 refine aC fun u0 => ?_; specialize u0 rfl rfl
 refine aQ ?_
 refine ai [(2, ⟨_, .bool _⟩)] ?_
 refine ak (fun hc0 => ?_) (fun hc0 => ?_)
 ·try simp only [au] at hc0
  iterate 3 refine ae ?_
  refine ai [(1, ⟨_, .str _⟩)] ?_
  refine ae ?_
  refine aB (congrArg D.str ?_)
  simp only [od]; rw [if_pos (by omega)]
 ·try simp only [au] at hc0
  iterate 4 refine ae ?_
  refine aC fun u1 => ?_; specialize u1 rfl rfl
  refine cA ?_
  refine ay (hc := h811 l ((l.length : Int) - 1) ⟨hp0.1, hp0.2, by omega, by omega⟩) ?_
  refine ae ?_
  refine ai [(1, ⟨_, .str _⟩)] ?_
  refine ae ?_
  refine aB (congrArg D.str ?_)
  simp only [od]; rw [if_neg (by omega)]
def EK (Γ : Ctx) : Prop := ∀ (l : List Nd), (fo l ∧ l.length ≤ 15) → Γ.pre 662 [.sl 5 (l.map Nd.D)] ∧ Γ.val 662 [.sl 5 (l.map Nd.D)] = .str (od l)
def oQ : aI := { np := 1, ns := 3, res := [⟨1, none⟩], rsh := [[.a]], body := (.seq (rg [gb 1 s0, gm (cb false)] [(2, 0), (1, 1)]) (.seq (rg [gf 0 s2, gd l0, gx 810 [l1] [[.sl 5 [.a, .a, .a, .a, .a]]], gm l2, ⟨.fa 0 s2, some (3, true)⟩, ⟨.ld 1 false l4, some (3, true)⟩, ⟨.call 662 [l5] [[.sl 5 [.a, .a, .a, .a, .a]]], some (3, true)⟩, ⟨.lenS l6, some (3, true)⟩, ⟨.bin .leq l7 (i6 96), some (3, true)⟩, gn (.pick l3 l8 (cb false)), gm l9] [(1, 10)]) .ret)) }
theorem w661 {Γ : Ctx} (hm : (Γ.at 0).bN) (h662 : EK (Γ.at 0)) (h810 : GX (Γ.at 0)) (m : D6)   : bo (Γ.at 0) oQ.body (eC oQ (.bool (td m)) : Ex → List aN → St → Prop) (bF oQ [iL m]) ⟨0, []⟩ := by
 show bo _ _ _ [⟨true, iL m⟩, .un, .un] ⟨0, []⟩
 refine aw ?_
 refine aZ ?_
 refine ae ?_
 refine ai [(1, ⟨_, .bool _⟩), (2, ⟨_, _⟩)] ?_
 iterate 2 refine ae ?_
 first | refine aj (v := .sl _ _) ?_ | refine aj (v := .own _ _ _ _) ?_ | refine aj (v := .av) ?_
 refine ay (hc := h810 m) ?_
 iterate 2 refine ae ?_
 first | refine aj (v := .sl _ _) ?_ | refine aj (v := .own _ _ _ _) ?_ | refine aj (v := .av) ?_
 refine jN (hc := fun hf => h662 m (by simp only [Bool.and_eq_true, beq_iff_eq, decide_eq_true_eq, true_and] at hf; exact ⟨sL hf.2, by omega⟩)) ?_
 refine cv fun _ => ?_
 refine jj ?_
 refine bK ?_
 refine ae ?_
 refine ai [(1, ⟨_, .bool _⟩)] ?_
 refine ae ?_
 refine aB (congrArg D.bool ?_)
 simp only [td]; congr 1; exact decide_eq_decide.2 (by omega)
def EJ (Γ : Ctx) : Prop := ∀ (m : D6), Γ.pre 661 [iL m] ∧ Γ.val 661 [iL m] = .bool (td m)
def k8 : aI := { np := 1, ns := 4, res := [⟨1, none⟩], rsh := [[.a]], body := (.seq (rg [gb 1 s0, gm (cs [])] [(2, 0), (1, 1)]) (.seq (.seq (rg [gk 1 true s2, gx 661 [l0] [[.sl 5 [.a, .a, .a, .a, .a]]], gn (.un .not l1)] [(3, 2)]) (.cond s3 (.seq (rg [gm (cs [])] [(1, 0)]) .ret) .skip)) (.seq (rg [gf 0 s2, gd l0, gx 662 [l1] [[.sl 5 [.a, .a, .a, .a, .a]]], gm l2] [(1, 3)]) .ret))) }
theorem w446 {Γ : Ctx} (hm : (Γ.at 0).bN) (h661 : EJ (Γ.at 0)) (h662 : EK (Γ.at 0)) (m : D6)   : bo (Γ.at 0) k8.body (eC k8 (.str (F4 m)) : Ex → List aN → St → Prop) (bF k8 [iL m]) ⟨0, []⟩ := by
 show bo _ _ _ [⟨true, iL m⟩, .un, .un, .un] ⟨0, []⟩
 refine aw ?_
 refine aZ ?_
 refine ae ?_
 refine ai [(1, ⟨_, .str _⟩), (2, ⟨_, _⟩)] ?_
 iterate 2 refine ae ?_
 refine bG ?_
 refine ay (hc := h661 m) ?_
 refine ct ?_
 refine ai [(3, ⟨_, .bool _⟩)] ?_
 refine ak (fun hc0 => ?_) (fun hc0 => ?_)
 ·simp only [Bool.not_eq_true'] at hc0
  iterate 3 refine ae ?_
  refine ai [(1, ⟨_, .str _⟩)] ?_
  refine ae ?_
  refine aB (congrArg D.str ?_)
  simp [F4, hc0]
 ·simp only [Bool.not_eq_false'] at hc0
  have hfw : (decide (m.length ≤ 15) && mz m) = true := by simp only [td, Bool.and_eq_true] at hc0; simp only [Bool.and_eq_true]; exact hc0.1
  simp only [Bool.and_eq_true, decide_eq_true_eq] at hfw
  iterate 3 refine ae ?_
  first | refine aj (v := .sl _ _) ?_ | refine aj (v := .own _ _ _ _) ?_ | refine aj (v := .av) ?_
  refine ay (hc := h662 m ⟨sL hfw.2, hfw.1⟩) ?_
  refine ae ?_
  refine ai [(1, ⟨_, .str _⟩)] ?_
  refine ae ?_
  refine aB (congrArg D.str ?_)
  simp [F4, hc0]
def GA (Γ : Ctx) : Prop := ∀ (m : D6), Γ.pre 446 [iL m] ∧ Γ.val 446 [iL m] = .str (F4 m)
end Go.Abs
end
