/- A part of the proofs of the statements: X2, X6, Y2, Y3, RSpec20, Y4, RSpec21, W2, W3, Y5, RSpec22, Z1, Z2, X3, X4, X5, Z3, S0, S1, SB, SHELF, LLib, LLibR. -/
import Derived.Ground.Names2Prog
import Derived.KernelRfl
import Derived.Lib.CountLaws
import Derived.Lib.IndexMore
import Derived.Lib.ItoaNum
import Derived.Lib.Join
import Derived.Lib.Split
import Derived.Lib.SplitLaws
import Derived.Lib.Strings
import Derived.Lib.TrimByte
import Derived.Shelf.LaysM
import Derived.Shelf.Slices.Clone
import Derived.Shelf.Small.Strs
import Derived.Shelf.Small.Utf8
import Derived.Shelf.Small.Wraps
import Derived.Shelf.Strconv.Itoa0
import Derived.Shelf.Strconv.Itoa1
import Derived.Shelf.Strconv.Itoa2
import Derived.Shelf.Strconv.Itoa3
import Derived.Shelf.Strings.AsciiSet
import Derived.Shelf.Strings.Builder1
import Derived.Shelf.Strings.Builder2
import Derived.Shelf.Strings.Count
import Derived.Shelf.Strings.Cut
import Derived.Shelf.Strings.OnBuilder
import Derived.Shelf.Strings.Prefix
import Derived.Shelf.Strings.Runes
import Derived.Shelf.Strings.Search1
import Derived.Shelf.Strings.Search2
import Derived.Shelf.Strings.Search3
import Derived.Shelf.Strings.Shaped
import Derived.Shelf.Strings.Split
import Derived.Shelf.Strings.SplitShaped
import Derived.Shelf.Strings.Trim
import Derived.Shelf.Unicode.DecodeSlow
import Derived.Test.YtpdlhpamcaocgaaGreatDoorProg
import Derived.Test.YtpdlhpamcaocgaaGreatDoorP10
set_option linter.all false
section
namespace Go.Abs
open Go
def fZ : aI := { np := 2, ns := 5, res := [⟨2, none⟩], rsh := [[.a]], body := (.seq (rg [gb 4 s0, gb 4 s1, gm (cb false)] [(3, 0), (4, 1), (2, 2)]) (.seq (rg [gf 0 s3, gd l0, gf 0 s4, gd l2, gn (bA l1 l3), gm l4, ⟨.fa 1 s3, some (5, true)⟩, ⟨.ld 1 false l6, some (5, true)⟩, ⟨.fa 1 s4, some (5, true)⟩, ⟨.ld 1 false l8, some (5, true)⟩, ⟨.bin .eql l7 l9, some (5, true)⟩, gn (.pick l5 l10 (cb false)), gm kl, ⟨.fa 3 s3, some (12, true)⟩, ⟨.ld 1 false nB, some (12, true)⟩, ⟨.fa 3 s4, some (12, true)⟩, ⟨.ld 1 false oN, some (12, true)⟩, ⟨.eqA false false [.b] nW qm, some (12, true)⟩, gn (.pick lJ rT (cb false)), gm rU, ⟨.fa 2 s3, some (19, true)⟩, ⟨.ld 1 false vz, some (19, true)⟩, ⟨.fa 2 s4, some (19, true)⟩, ⟨.ld 1 false xf, some (19, true)⟩, ⟨.call 226 [wi, yI] [[.sl 1 [.a]], [.sl 1 [.a]]], some (19, true)⟩, gn (.pick tK zK (cb false)), gm At] [(2, 26)]) .ret)) }
theorem w477 {Γ : Ctx} (hm : (Γ.at 0).bN) (h226 : Ez (Γ.at 0)) (a : aR) (b : aR)   : bo (Γ.at 0) fZ.body (eC fZ (.bool (decide (a = b))) : Ex → List aN → St → Prop) (bF fZ [aR.D a, aR.D b]) ⟨0, []⟩ := by
 show bo _ _ _ [⟨true, aR.D a⟩, ⟨true, aR.D b⟩, .un, .un, .un] ⟨0, []⟩
 refine aw ?_
 refine aZ ?_
 refine aZ ?_
 refine ae ?_
 refine ai [(2, ⟨_, .bool _⟩), (3, ⟨_, _⟩), (4, ⟨_, _⟩)] ?_
 iterate 2 refine ae ?_
 refine aj (v := (.str _)) ?_
 refine ae ?_
 refine aj (v := (.str _)) ?_
 refine cH ?_
 iterate 2 refine ae ?_
 refine aj (v := (.str _)) ?_
 refine ae ?_
 refine aj (v := (.str _)) ?_
 refine cH ?_
 refine bK ?_
 iterate 2 refine ae ?_
 refine aj (v := (.bool _)) ?_
 refine ae ?_
 refine aj (v := (.bool _)) ?_
 refine wJ (hb := CW _ _) ?_
 refine bK ?_
 iterate 2 refine ae ?_
 first | refine aj (v := .sl _ _) ?_ | refine aj (v := .own _ _ _ _) ?_ | refine aj (v := .av) ?_
 refine ae ?_
 first | refine aj (v := .sl _ _) ?_ | refine aj (v := .own _ _ _ _) ?_ | refine aj (v := .av) ?_
 refine ay (hc := h226 _ _) ?_
 refine bK ?_
 refine ae ?_
 refine ai [(2, ⟨_, .bool _⟩)] ?_
 refine ae ?_
 refine aB (congrArg D.bool ?_)
 rw [aR.mr a b]
def GH (Γ : Ctx) : Prop := ∀ (a : aR) (b : aR), Γ.pre 477 [aR.D a, aR.D b] ∧ Γ.val 477 [aR.D a, aR.D b] = .bool (decide (a = b))
def fY : aI := { np := 2, ns := 9, res := [⟨2, none⟩], rsh := [[.a]], body := (.seq (rg [gb 3 s0, gb 3 s1, gm (cb false)] [(3, 0), (4, 1), (2, 2)]) (.seq (.seq (rg [gf 1 s3, gd l0, gf 1 s4, gd l2, gn (cN l1 l3), gm l4, ⟨.fa 2 s3, some (5, false)⟩, ⟨.ld 1 false l6, some (5, false)⟩, ⟨.fa 2 s4, some (5, false)⟩, ⟨.ld 1 false l8, some (5, false)⟩, ⟨.bin .neq l7 l9, some (5, false)⟩, gn (.pick l5 (cb true) l10), gm kl, ⟨.fa 0 s3, some (12, false)⟩, ⟨.ld 1 false nB, some (12, false)⟩, ⟨.len nW, some (12, false)⟩, ⟨.fa 0 s4, some (12, false)⟩, ⟨.ld 1 false qm, some (12, false)⟩, ⟨.len rT, some (12, false)⟩, ⟨.bin .neq oN rU, some (12, false)⟩, gn (.pick lJ (cb true) tK)] [(5, 20)]) (.cond s5 (.seq (rg [gm (cb false)] [(2, 0)]) .ret) .skip)) (.seq (.seq (rg [gm (i6 0)] [(6, 0)]) (.block 0 (.loop (.seq (.seq (rg [gm s6, gf 0 s3, gd l1, gl l2, gn (bQ l0 l3)] [(7, 4)]) (.cond s7 .skip (.exit 0))) (.seq (.block 1 (.seq (rt [gf 0 s3, gd l0, gm s6, ga 4 l1 l2, gk 4 true l3, gf 0 s4, gd l5, gm s6, ga 4 l6 l7, gk 4 true l8, gx 477 [l4, l9] [[.a, .a, .sl 1 [.a], .a], [.a, .a, .sl 1 [.a], .a]], gn (.un .not l10)] [(8, 11)]) (.cond s8 (.seq (rg [gm (cb false)] [(2, 0)]) .ret) .skip))) (rg [gm s6, gn (bh l0 (i6 1)), gm l1] [(6, 2)])))))) (.seq (rg [gm (cb true)] [(2, 0)]) .ret)))) }
theorem w225 {Γ : Ctx} (hm : (Γ.at 0).bN) (h477 : GH (Γ.at 0)) (a : aJ) (b : aJ)   : bo (Γ.at 0) fY.body (eC fY (.bool (decide (a = b))) : Ex → List aN → St → Prop) (bF fY [aJ.D a, aJ.D b]) ⟨0, []⟩ := by
 show bo _ _ _ [⟨true, aJ.D a⟩, ⟨true, aJ.D b⟩, .un, .un, .un, .un, .un, .un, .un] ⟨0, []⟩
 refine aw ?_
 refine aZ ?_
 refine aZ ?_
 refine ae ?_
 refine ai [(2, ⟨_, .bool _⟩), (3, ⟨_, _⟩), (4, ⟨_, _⟩)] ?_
 iterate 3 refine ae ?_
 refine aj (v := (.str _)) ?_
 refine ae ?_
 refine aj (v := (.str _)) ?_
 refine cn ?_
 iterate 2 refine ae ?_
 refine aj (v := (.str _)) ?_
 refine ae ?_
 refine aj (v := (.str _)) ?_
 refine cn ?_
 refine bY ?_
 iterate 2 refine ae ?_
 first | refine aj (v := .sl _ _) ?_ | refine aj (v := .own _ _ _ _) ?_ | refine aj (v := .av) ?_
 refine aC fun _ => ?_
 refine ae ?_
 first | refine aj (v := .sl _ _) ?_ | refine aj (v := .own _ _ _ _) ?_ | refine aj (v := .av) ?_
 refine aC fun _ => ?_
 refine bU ?_
 refine bY ?_
 refine ai [(5, ⟨_, .bool _⟩)] ?_
 refine ak (fun hc0 => ?_) (fun hc0 => ?_)
 ·simp only [Bool.or_eq_true, Bool.not_eq_true', decide_eq_false_iff_not] at hc0
  iterate 3 refine ae ?_
  refine ai [(2, ⟨_, .bool _⟩)] ?_
  refine ae ?_
  refine aB (congrArg D.bool ?_)
  symm; rw [decide_eq_false_iff_not]; rintro rfl; simp at hc0
 ·simp only [Bool.or_eq_false_iff, Bool.not_eq_false', decide_eq_true_eq] at hc0
  iterate 4 refine ae ?_
  refine ai [(6, ⟨_, .int _ _⟩)] ?_
  have hb := aJ.H4 hc0.1.1 hc0.1.2 (by omega)
  refine bz hm (ι := Nat) (fun i => [.un, .un, .un, ⟨true, .ptr 0 3 0 0⟩, ⟨true, .ptr 1 3 0 0⟩, .un, ⟨true, .int .i64 (i : Nat)⟩, .un, .un]) (fun i => [(0, .buf 3 [aJ.D a]), (1, .buf 3 [aJ.D b])]) 25 (fun i => i ≤ a.any.length ∧ decide (a = b) = bO (fun i => decide (a.any[i]! = b.any[i]!)) i a.any.length) (fun i => a.any.length - i) 0 ⟨by omega, hb⟩ (az.to [(0, 0), (1, 1)] ah ah aX bJ) ?_
  rintro i ⟨hi, hr⟩
  iterate 4 refine ae ?_
  first | refine aj (v := .sl _ _) ?_ | refine aj (v := .own _ _ _ _) ?_ | refine aj (v := .av) ?_
  refine aC fun u0 => ?_; specialize u0 rfl rfl
  refine aW ?_
  refine ai [(7, ⟨_, .bool _⟩)] ?_
  refine ak (fun hc1 => ?_) (fun hc1 => ?_)
  ·try simp only [au] at hc1
   refine ae ?_
   refine ax ?_ hm
   iterate 2 refine ae ?_
   first | refine aj (v := .sl _ _) ?_ | refine aj (v := .own _ _ _ _) ?_ | refine aj (v := .av) ?_
   refine ae ?_
   first | refine aP _ ?_ | refine br ?_
   first | refine aS (v := (aR.D _)) ?_ | refine bH (v := (aR.D _)) ?_
   refine ae ?_
   first | refine aj (v := .sl _ _) ?_ | refine aj (v := .own _ _ _ _) ?_ | refine aj (v := .av) ?_
   refine ae ?_
   first | refine aP _ ?_ | refine br ?_
   first | refine aS (v := (aR.D _)) ?_ | refine bH (v := (aR.D _)) ?_
   refine ay (hc := h477 _ _) ?_
   refine ct ?_
   refine ai [(8, ⟨_, .bool _⟩)] ?_
   refine wp_cond (fun hc2 => ?_) (fun hc2 => ?_)
   ·simp only [Bool.not_eq_true', decide_eq_false_iff_not] at hc2
    iterate 2 refine ae ?_
    refine ai [(2, ⟨_, .bool _⟩)] ?_
    iterate 3 refine ae ?_
    refine aB (congrArg D.bool ?_)
    rw [hr, aD (by omega), decide_eq_false hc2]; rfl
   ·simp only [Bool.not_eq_false', decide_eq_true_eq] at hc2
    iterate 4 refine ae ?_
    refine aF ?_
    refine ae ?_
    refine bL [(6, ⟨_, .int _ _⟩)] ?_
    refine ae ?_
    exact ⟨i + 1, ⟨by omega, by rw [hr, aD (by omega), decide_eq_true hc2]; rfl⟩, by omega, (az.to [(0, 0), (1, 1)] ah ah aX bJ)⟩
  ·try simp only [au] at hc1
   iterate 4 refine ae ?_
   refine ai [(2, ⟨_, .bool _⟩)] ?_
   refine ae ?_
   refine aB (congrArg D.bool ?_)
   rw [hr, bD (by omega)]
def Gj (Γ : Ctx) : Prop := ∀ (a : aJ) (b : aJ), Γ.pre 225 [aJ.D a, aJ.D b] ∧ Γ.val 225 [aJ.D a, aJ.D b] = .bool (decide (a = b))
def lr : aI := { np := 2, ns := 15, res := [⟨2, none⟩], rsh := [[.a]], body := (.seq (rg [gb 9 s0, gb 9 s1, gm (cb false)] [(3, 0), (4, 1), (2, 2)]) (.seq (.seq (rg [gf 0 s3, gd l0, gf 0 s4, gd l2, gn (cN l1 l3), gm l4, ⟨.fa 1 s3, some (5, false)⟩, ⟨.ld 5 true l6, some (5, false)⟩, ⟨.fa 1 s4, some (5, false)⟩, ⟨.ld 5 true l8, some (5, false)⟩, ⟨.eqA true true [.i .i64, .i .i64, .i .i64, .s, .s] l7 l9, some (5, false)⟩, gn (.pick l5 (cb true) l10), gm kl, ⟨.fa 6 s3, some (12, false)⟩, ⟨.ld 1 false nB, some (12, false)⟩, ⟨.len nW, some (12, false)⟩, ⟨.fa 6 s4, some (12, false)⟩, ⟨.ld 1 false qm, some (12, false)⟩, ⟨.len rT, some (12, false)⟩, ⟨.bin .neq oN rU, some (12, false)⟩, gn (.pick lJ (cb true) tK), gm vz, ⟨.fa 7 s3, some (21, false)⟩, ⟨.ld 1 false xf, some (21, false)⟩, ⟨.len yI, some (21, false)⟩, ⟨.fa 7 s4, some (21, false)⟩, ⟨.ld 1 false At, some (21, false)⟩, ⟨.len Di, some (21, false)⟩, ⟨.bin .neq zK Fi, some (21, false)⟩, gn (.pick wi (cb true) F1), gm F2, ⟨.fa 8 s3, some (30, false)⟩, ⟨.ld 1 false HO, some (30, false)⟩, ⟨.len HP, some (30, false)⟩, ⟨.fa 8 s4, some (30, false)⟩, ⟨.ld 1 false l34, some (30, false)⟩, ⟨.len l35, some (30, false)⟩, ⟨.bin .neq l33 l36, some (30, false)⟩, gn (.pick HN (cb true) l37)] [(5, 38)]) (.cond s5 (.seq (rg [gm (cb false)] [(2, 0)]) .ret) .skip)) (.seq (.seq (rg [gm (i6 0)] [(6, 0)]) (.block 0 (.loop (.seq (.seq (rg [gm s6, gf 6 s3, gd l1, gl l2, gn (bQ l0 l3)] [(7, 4)]) (.cond s7 .skip (.exit 0))) (.seq (.block 1 (.seq (rt [gf 6 s3, gd l0, gm s6, ga 3 l1 l2, gk 3 true l3, gf 6 s4, gd l5, gm s6, ga 3 l6 l7, gk 3 true l8, gx 225 [l4, l9] [[.sl 4 [.a, .a, .sl 1 [.a], .a], .a, .a], [.sl 4 [.a, .a, .sl 1 [.a], .a], .a, .a]], gn (.un .not l10)] [(8, 11)]) (.cond s8 (.seq (rg [gm (cb false)] [(2, 0)]) .ret) .skip))) (rg [gm s6, gn (bh l0 (i6 1)), gm l1] [(6, 2)])))))) (.seq (.seq (rg [gm (i6 0)] [(9, 0)]) (.block 2 (.loop (.seq (.seq (rg [gm s9, gf 7 s3, gd l1, gl l2, gn (bQ l0 l3)] [(10, 4)]) (.cond kF .skip (.exit 2))) (.seq (.block 3 (.seq (rt [gf 7 s3, gd l0, gm s9, ga 3 l1 l2, gk 3 true l3, gf 7 s4, gd l5, gm s9, ga 3 l6 l7, gk 3 true l8, gn (.eqA true true [.s, .s, .s] l4 l9)] [(11, 10)]) (.cond mV (.seq (rg [gm (cb false)] [(2, 0)]) .ret) .skip))) (rg [gm s9, gn (bh l0 (i6 1)), gm l1] [(9, 2)])))))) (.seq (.seq (rg [gm (i6 0)] [(12, 0)]) (.block 4 (.loop (.seq (.seq (rg [gm jV, gf 8 s3, gd l1, gl l2, gn (bQ l0 l3)] [(13, 4)]) (.cond ri .skip (.exit 4))) (.seq (.block 5 (.seq (rt [gf 8 s3, gd l0, gm jV, ga 2 l1 l2, gf 0 l3, gd l4, gf 8 s4, gd l6, gm jV, ga 2 l7 l8, gf 0 l9, gd l10, gn (cN l5 kl), gm lJ, ⟨.fa 8 s3, some (13, false)⟩, ⟨.ld 1 false nW, some (13, false)⟩, ⟨.mv jV, some (13, false)⟩, ⟨.ia 2 oN qm, some (13, false)⟩, ⟨.fa 1 rT, some (13, false)⟩, ⟨.ld 1 false rU, some (13, false)⟩, ⟨.fa 8 s4, some (13, false)⟩, ⟨.ld 1 false vz, some (13, false)⟩, ⟨.mv jV, some (13, false)⟩, ⟨.ia 2 wi xf, some (13, false)⟩, ⟨.fa 1 yI, some (13, false)⟩, ⟨.ld 1 false zK, some (13, false)⟩, ⟨.call 226 [tK, At] [[.sl 1 [.a]], [.sl 1 [.a]]], some (13, false)⟩, ⟨.un .not Di, some (13, false)⟩, gn (.pick nB (cb true) Fi)] [(14, 28)]) (.cond vj (.seq (rg [gm (cb false)] [(2, 0)]) .ret) .skip))) (rg [gm jV, gn (bh l0 (i6 1)), gm l1] [(12, 2)])))))) (.seq (rg [gm (cb true)] [(2, 0)]) .ret)))))) }
theorem w78 {Γ : Ctx} (hm : (Γ.at 0).bN) (h225 : Gj (Γ.at 0)) (h226 : Ez (Γ.at 0)) (a : Rec) (b : Rec)   : bo (Γ.at 0) lr.body (eC lr (.bool (decide (a = b))) : Ex → List aN → St → Prop) (bF lr [Rec.D a, Rec.D b]) ⟨0, []⟩ := by
 show bo _ _ _ [⟨true, Rec.D a⟩, ⟨true, Rec.D b⟩, .un, .un, .un, .un, .un, .un, .un, .un, .un, .un, .un, .un, .un] ⟨0, []⟩
 refine aw ?_
 refine aZ ?_
 refine aZ ?_
 refine ae ?_
 refine ai [(2, ⟨_, .bool _⟩), (3, ⟨_, _⟩), (4, ⟨_, _⟩)] ?_
 iterate 3 refine ae ?_
 refine aj (v := (.str _)) ?_
 refine ae ?_
 refine aj (v := (.str _)) ?_
 refine cn ?_
 iterate 2 refine ae ?_
 refine aj (v := (dP.D _)) ?_
 refine ae ?_
 refine aj (v := (dP.D _)) ?_
 refine BS (hb := dP.eq _ _) ?_
 refine bY ?_
 iterate 2 refine ae ?_
 first | refine aj (v := .sl _ _) ?_ | refine aj (v := .own _ _ _ _) ?_ | refine aj (v := .av) ?_
 refine aC fun _ => ?_
 refine ae ?_
 first | refine aj (v := .sl _ _) ?_ | refine aj (v := .own _ _ _ _) ?_ | refine aj (v := .av) ?_
 refine aC fun _ => ?_
 refine bU ?_
 refine bY ?_
 iterate 2 refine ae ?_
 first | refine aj (v := .sl _ _) ?_ | refine aj (v := .own _ _ _ _) ?_ | refine aj (v := .av) ?_
 refine aC fun _ => ?_
 refine ae ?_
 first | refine aj (v := .sl _ _) ?_ | refine aj (v := .own _ _ _ _) ?_ | refine aj (v := .av) ?_
 refine aC fun _ => ?_
 refine bU ?_
 refine bY ?_
 iterate 2 refine ae ?_
 first | refine aj (v := .sl _ _) ?_ | refine aj (v := .own _ _ _ _) ?_ | refine aj (v := .av) ?_
 refine aC fun _ => ?_
 refine ae ?_
 first | refine aj (v := .sl _ _) ?_ | refine aj (v := .own _ _ _ _) ?_ | refine aj (v := .av) ?_
 refine aC fun _ => ?_
 refine bU ?_
 refine bY ?_
 refine ai [(5, ⟨_, .bool _⟩)] ?_
 refine ak (fun hc0 => ?_) (fun hc0 => ?_)
 ·simp only [Bool.or_eq_true, Bool.not_eq_true', decide_eq_false_iff_not] at hc0
  iterate 3 refine ae ?_
  refine ai [(2, ⟨_, .bool _⟩)] ?_
  refine ae ?_
  refine aB (congrArg D.bool ?_)
  symm; rw [decide_eq_false_iff_not]; rintro rfl; simp at hc0
 ·simp only [Bool.or_eq_false_iff, Bool.not_eq_false', decide_eq_true_eq] at hc0
  iterate 4 refine ae ?_
  refine ai [(6, ⟨_, .int _ _⟩)] ?_
  have hb := eA (show a.needs.length = b.needs.length by omega)
  refine bz hm (ι := Nat) (fun i => [.un, .un, .un, ⟨true, .ptr 0 9 0 0⟩, ⟨true, .ptr 1 9 0 0⟩, .un, ⟨true, .int .i64 (i : Nat)⟩, .un, .un, .un, .un, .un, .un, .un, .un]) (fun i => [(0, .buf 9 [Rec.D a]), (1, .buf 9 [Rec.D b])]) 43 (fun i => i ≤ a.needs.length ∧ decide (a.needs = b.needs) = bO (fun i => decide (a.needs[i]! = b.needs[i]!)) i a.needs.length) (fun i => a.needs.length - i) 0 ⟨by omega, hb⟩ (az.to [(0, 0), (1, 1)] ah ah aX bJ) ?_
  rintro i ⟨hi, hr⟩
  iterate 4 refine ae ?_
  first | refine aj (v := .sl _ _) ?_ | refine aj (v := .own _ _ _ _) ?_ | refine aj (v := .av) ?_
  refine aC fun u0 => ?_; specialize u0 rfl rfl
  refine aW ?_
  refine ai [(7, ⟨_, .bool _⟩)] ?_
  refine ak (fun hc1 => ?_) (fun hc1 => ?_)
  ·try simp only [au] at hc1
   refine ae ?_
   refine ax ?_ hm
   iterate 2 refine ae ?_
   first | refine aj (v := .sl _ _) ?_ | refine aj (v := .own _ _ _ _) ?_ | refine aj (v := .av) ?_
   refine ae ?_
   first | refine aP _ ?_ | refine br ?_
   first | refine aS (v := (aJ.D _)) ?_ | refine bH (v := (aJ.D _)) ?_
   refine ae ?_
   first | refine aj (v := .sl _ _) ?_ | refine aj (v := .own _ _ _ _) ?_ | refine aj (v := .av) ?_
   refine ae ?_
   first | refine aP _ ?_ | refine br ?_
   first | refine aS (v := (aJ.D _)) ?_ | refine bH (v := (aJ.D _)) ?_
   refine ay (hc := h225 _ _) ?_
   refine ct ?_
   refine ai [(8, ⟨_, .bool _⟩)] ?_
   refine wp_cond (fun hc2 => ?_) (fun hc2 => ?_)
   ·simp only [Bool.not_eq_true', decide_eq_false_iff_not] at hc2
    iterate 2 refine ae ?_
    refine ai [(2, ⟨_, .bool _⟩)] ?_
    iterate 3 refine ae ?_
    refine aB (congrArg D.bool ?_)
    have hd : decide (a.needs = b.needs) = false := by rw [hr, aD (by omega), decide_eq_false hc2]; rfl
    rw [Rec.mr a b, hd]; simp
   ·simp only [Bool.not_eq_false', decide_eq_true_eq] at hc2
    iterate 4 refine ae ?_
    refine aF ?_
    refine ae ?_
    refine bL [(6, ⟨_, .int _ _⟩)] ?_
    refine ae ?_
    exact ⟨i + 1, ⟨by omega, by rw [hr, aD (by omega), decide_eq_true hc2]; rfl⟩, by omega, (az.to [(0, 0), (1, 1)] ah ah aX bJ)⟩
  ·try simp only [au] at hc1
   iterate 4 refine ae ?_
   have hn : decide (a.needs = b.needs) = true := by rw [hr, bD (by omega)]
   refine ae ?_
   refine ai [(9, ⟨_, .int _ _⟩)] ?_
   have hb := eA (show a.bars.length = b.bars.length by omega)
   refine bz hm (ι := Nat) (fun i => [.un, .un, .un, ⟨true, .ptr 0 9 0 0⟩, ⟨true, .ptr 1 9 0 0⟩, .un, .un, .un, .un, ⟨true, .int .i64 (i : Nat)⟩, .un, .un, .un, .un, .un]) (fun i => [(0, .buf 9 [Rec.D a]), (1, .buf 9 [Rec.D b])]) 49 (fun i => i ≤ a.bars.length ∧ decide (a.bars = b.bars) = bO (fun i => decide (a.bars[i]! = b.bars[i]!)) i a.bars.length) (fun i => a.bars.length - i) 0 ⟨by omega, hb⟩ (az.to [(0, 0), (1, 1)] ah ah aX bJ) ?_
   rintro i ⟨hi, hr⟩
   iterate 4 refine ae ?_
   first | refine aj (v := .sl _ _) ?_ | refine aj (v := .own _ _ _ _) ?_ | refine aj (v := .av) ?_
   refine aC fun u1 => ?_; specialize u1 rfl rfl
   refine aW ?_
   refine ai [(10, ⟨_, .bool _⟩)] ?_
   refine ak (fun hc3 => ?_) (fun hc3 => ?_)
   ·try simp only [au] at hc3
    refine ae ?_
    refine ax ?_ hm
    iterate 2 refine ae ?_
    first | refine aj (v := .sl _ _) ?_ | refine aj (v := .own _ _ _ _) ?_ | refine aj (v := .av) ?_
    refine ae ?_
    first | refine aP _ ?_ | refine br ?_
    first | refine aS (v := (ec.D _)) ?_ | refine bH (v := (ec.D _)) ?_
    refine ae ?_
    first | refine aj (v := .sl _ _) ?_ | refine aj (v := .own _ _ _ _) ?_ | refine aj (v := .av) ?_
    refine ae ?_
    first | refine aP _ ?_ | refine br ?_
    first | refine aS (v := (ec.D _)) ?_ | refine bH (v := (ec.D _)) ?_
    refine BS (hb := ec.eq _ _) ?_
    refine ai [(11, ⟨_, .bool _⟩)] ?_
    refine wp_cond (fun hc4 => ?_) (fun hc4 => ?_)
    ·simp only [Bool.not_eq_true', decide_eq_false_iff_not] at hc4
     iterate 2 refine ae ?_
     refine ai [(2, ⟨_, .bool _⟩)] ?_
     iterate 3 refine ae ?_
     refine aB (congrArg D.bool ?_)
     have hd : decide (a.bars = b.bars) = false := by rw [hr, aD (by omega), decide_eq_false hc4]; rfl
     rw [Rec.mr a b, hd]; simp
    ·simp only [Bool.not_eq_false', decide_eq_true_eq] at hc4
     iterate 4 refine ae ?_
     refine aF ?_
     refine ae ?_
     refine bL [(9, ⟨_, .int _ _⟩)] ?_
     refine ae ?_
     exact ⟨i + 1, ⟨by omega, by rw [hr, aD (by omega), decide_eq_true hc4]; rfl⟩, by omega, (az.to [(0, 0), (1, 1)] ah ah aX bJ)⟩
   ·try simp only [au] at hc3
    iterate 4 refine ae ?_
    have hbr : decide (a.bars = b.bars) = true := by rw [hr, bD (by omega)]
    refine ae ?_
    refine ai [(12, ⟨_, .int _ _⟩)] ?_
    have hb := eA (show a.feats.length = b.feats.length by omega)
    refine bz hm (ι := Nat) (fun i => [.un, .un, .un, ⟨true, .ptr 0 9 0 0⟩, ⟨true, .ptr 1 9 0 0⟩, .un, .un, .un, .un, .un, .un, .un, ⟨true, .int .i64 (i : Nat)⟩, .un, .un]) (fun i => [(0, .buf 9 [Rec.D a]), (1, .buf 9 [Rec.D b])]) 55 (fun i => i ≤ a.feats.length ∧ decide (a.feats = b.feats) = bO (fun i => decide (a.feats[i]! = b.feats[i]!)) i a.feats.length) (fun i => a.feats.length - i) 0 ⟨by omega, hb⟩ (az.to [(0, 0), (1, 1)] ah ah aX bJ) ?_
    rintro i ⟨hi, hr⟩
    iterate 4 refine ae ?_
    first | refine aj (v := .sl _ _) ?_ | refine aj (v := .own _ _ _ _) ?_ | refine aj (v := .av) ?_
    refine aC fun u2 => ?_; specialize u2 rfl rfl
    refine aW ?_
    refine ai [(13, ⟨_, .bool _⟩)] ?_
    refine ak (fun hc5 => ?_) (fun hc5 => ?_)
    ·try simp only [au] at hc5
     refine ae ?_
     refine ax ?_ hm
     iterate 2 refine ae ?_
     first | refine aj (v := .sl _ _) ?_ | refine aj (v := .own _ _ _ _) ?_ | refine aj (v := .av) ?_
     refine ae ?_
     first | refine aP _ ?_ | refine br ?_
     refine ez ?_
     first | refine aS (v := (.str _)) ?_ | refine bH (v := (.str _)) ?_
     refine ae ?_
     first | refine aj (v := .sl _ _) ?_ | refine aj (v := .own _ _ _ _) ?_ | refine aj (v := .av) ?_
     refine ae ?_
     first | refine aP _ ?_ | refine br ?_
     refine ez ?_
     first | refine aS (v := (.str _)) ?_ | refine bH (v := (.str _)) ?_
     refine cn ?_
     iterate 2 refine ae ?_
     first | refine aj (v := .sl _ _) ?_ | refine aj (v := .own _ _ _ _) ?_ | refine aj (v := .av) ?_
     refine ae ?_
     first | refine aP _ ?_ | refine br ?_
     refine ez ?_
     first | refine aS (v := (.sl _ _)) ?_ | refine bH (v := (.sl _ _)) ?_
     refine ae ?_
     first | refine aj (v := .sl _ _) ?_ | refine aj (v := .own _ _ _ _) ?_ | refine aj (v := .av) ?_
     refine ae ?_
     first | refine aP _ ?_ | refine br ?_
     refine ez ?_
     first | refine aS (v := (.sl _ _)) ?_ | refine bH (v := (.sl _ _)) ?_
     refine ay (hc := h226 _ _) ?_
     refine ct ?_
     refine bY ?_
     refine ai [(14, ⟨_, .bool _⟩)] ?_
     refine wp_cond (fun hc6 => ?_) (fun hc6 => ?_)
     ·simp only [Bool.or_eq_true, Bool.not_eq_true', decide_eq_false_iff_not] at hc6
      replace hc6 : ¬ a.feats[i]! = b.feats[i]! := fun e => by rw [e] at hc6; simp at hc6
      iterate 2 refine ae ?_
      refine ai [(2, ⟨_, .bool _⟩)] ?_
      iterate 3 refine ae ?_
      refine aB (congrArg D.bool ?_)
      have hd : decide (a.feats = b.feats) = false := by rw [hr, aD (by omega), decide_eq_false hc6]; rfl
      rw [Rec.mr a b, hd]; simp
     ·simp only [Bool.or_eq_false_iff, Bool.not_eq_false', decide_eq_true_eq] at hc6
      replace hc6 : a.feats[i]! = b.feats[i]! := ba.eq2 hc6.1 hc6.2
      iterate 4 refine ae ?_
      refine aF ?_
      refine ae ?_
      refine bL [(12, ⟨_, .int _ _⟩)] ?_
      refine ae ?_
      exact ⟨i + 1, ⟨by omega, by rw [hr, aD (by omega), decide_eq_true hc6]; rfl⟩, by omega, (az.to [(0, 0), (1, 1)] ah ah aX bJ)⟩
    ·try simp only [au] at hc5
     iterate 4 refine ae ?_
     refine ai [(2, ⟨_, .bool _⟩)] ?_
     refine ae ?_
     refine aB (congrArg D.bool ?_)
     have hf : decide (a.feats = b.feats) = true := by rw [hr, bD (by omega)]
     rw [Rec.mr a b, hn, hbr, hf, decide_eq_true hc0.1.1.1.1, decide_eq_true hc0.1.1.1.2]; rfl
def C78 (Γ : Ctx) : Prop := ∀ (a : Rec) (b : Rec), Γ.pre 78 [Rec.D a, Rec.D b] ∧ Γ.val 78 [Rec.D a, Rec.D b] = .bool (decide (a = b))
end Go.Abs
end
section
namespace Go.Abs
open Go
def iP : aI := { np := 1, ns := 6, res := [⟨1, none⟩, ⟨2, none⟩], rsh := [[.a], [.a]], body := (.seq (rg [gb 9 s0, gm (cs []), gm (i6 0)] [(3, 0), (1, 1), (2, 2)]) (.seq (.seq (rg [gk 9 true s3, gx 70 [l0] [[.a, .a, .a, .a, .a, .a, .sl 3 [.sl 4 [.a, .a, .sl 1 [.a], .a], .a, .a], .sl 3 [.a, .a, .a], .sl 2 [.a, .sl 1 [.a]]]], gm l1, ge l2 0, ge l2 1, gm l3, gm l4] [(4, 5)]) (.seq (rg [gm s4, gn (cN l0 (i6 0))] [(5, 1)]) (.cond s5 (.seq (rg [gm s4, gm (cs []), gm l0] [(1, 1), (2, 2)]) .ret) .skip))) (.seq (rg [gk 9 true s3, gx 215 [l0] [[.a, .a, .a, .a, .a, .a, .sl 3 [.sl 4 [.a, .a, .sl 1 [.a], .a], .a, .a], .sl 3 [.a, .a, .a], .sl 2 [.a, .sl 1 [.a]]]], gm l1, gm (i6 0)] [(1, 2), (2, 3)]) .ret))) }
theorem w72 {Γ : Ctx} (hm : (Γ.at 0).bN) (h70 : C70 (Γ.at 0)) (h215 : Ey (Γ.at 0)) (r : Rec)  (hp0 : kD r) : bo (Γ.at 0) iP.body (eC iP (.tup [.str (lj r).1, .int .i64 (lj r).2]) : Ex → List aN → St → Prop) (bF iP [Rec.D r]) ⟨0, []⟩ := by
 show bo _ _ _ [⟨true, Rec.D r⟩, .un, .un, .un, .un, .un] ⟨0, []⟩
 refine aw ?_
 refine aZ ?_
 iterate 2 refine ae ?_
 refine ai [(1, ⟨_, .str _⟩), (2, ⟨_, .int _ _⟩), (3, ⟨_, _⟩)] ?_
 iterate 2 refine ae ?_
 refine bG ?_
 refine ay (hc := h70 r hp0) ?_
 refine ae ?_
 refine bg (.int _ _) ?_
 refine bg (.int _ _) ?_
 iterate 2 refine ae ?_
 refine ai [(4, ⟨_, .int _ _⟩)] ?_
 iterate 3 refine ae ?_
 refine bU ?_
 refine ai [(5, ⟨_, .bool _⟩)] ?_
 refine ak (fun hc0 => ?_) (fun hc0 => ?_)
 ·try simp only [au] at hc0
  iterate 5 refine ae ?_
  refine ai [(1, ⟨_, .str _⟩), (2, ⟨_, .int _ _⟩)] ?_
  refine ae ?_
  refine aB (aY (congrArg D.str ?_) (congrArg (D.int .i64) ?_))
  all_goals
   simp [lj, hc0]
 ·try simp only [au] at hc0
  iterate 2 refine ae ?_
  have hgd := vQ hc0
  refine bG ?_
  refine ay (hc := h215 r ⟨hgd, hp0⟩) ?_
  iterate 2 refine ae ?_
  refine ai [(1, ⟨_, .str _⟩), (2, ⟨_, .int _ _⟩)] ?_
  refine ae ?_
  refine aB (aY (congrArg D.str ?_) (congrArg (D.int .i64) ?_))
  all_goals
   simp [lj, hc0]
def C72 (Γ : Ctx) : Prop := ∀ (r : Rec), (kD r) → Γ.pre 72 [Rec.D r] ∧ Γ.val 72 [Rec.D r] = .tup [.str (lj r).1, .int .i64 (lj r).2]
end Go.Abs
end
section
namespace Go.Abs
open Go
end Go.Abs
end
section
namespace Go.Abs
open Go
end Go.Abs
end
namespace Go.Abs
end Go.Abs
section
namespace Go.Abs
open Go
end Go.Abs
end
namespace Go.Abs
end Go.Abs
section
namespace Go.Abs
open Go
end Go.Abs
end
section
namespace Go.Abs
open Go
end Go.Abs
end
section
namespace Go.Abs
open Go
end Go.Abs
end
section
namespace Go.Abs
def awT : aq := [112,97,99,107,97,103,101,32,97,112,112,32,49,46,48,46,48,10,110,101,101,100,10,97,110,121,32,98,32,120,32,102,117,108,108,32,94,49,10,119,104,101,110,32,111,115,32,61,32,120,10,98,97,114,32,99,32,42,10,102,101,97,116,117,114,101,32,121,32,98,47,122,10]
def CI : aq := [112,97,99,107,97,103,101,32,97,112,112,32,49,46,48,46,48,10,97,110,121,32,98,32,45,32,102,117,108,108,32,42,10]
def Ar : Rec := ⟨[97,112,112], ⟨1,0,0,[],[]⟩, [⟨[⟨[98],[94,49],[[120]],false⟩],[111,115,32,61,32,120],[]⟩], [⟨[99],[42],[]⟩], [⟨[121],[[98,47,122]]⟩]⟩
set_option maxRecDepth 100000 in
theorem aw1 : fX awT = (Ar, 0, 0) := by decide +kernel
set_option maxRecDepth 100000 in
theorem aw3 : lj Ar = (awT, 0) := by decide +kernel
set_option maxRecDepth 100000 in
theorem aw2 : (fX CI).2 = (2, 2) := by decide +kernel
theorem E6 : kD Ar := by
 refine ⟨⟨by decide, by decide, by decide⟩, fun n hn => ?_, fun b hb => ?_, fun f hf => ?_⟩
 ·simp only [Ar, List.mem_singleton] at hn
  subst hn
  refine ⟨fun w hw => ?_, by decide, by decide⟩
  simp only [List.mem_singleton] at hw
  subst hw
  exact ⟨⟨by decide, by decide⟩, fun t ht => by simp only [List.mem_singleton] at ht; subst ht; decide⟩
 ·simp only [Ar, List.mem_singleton] at hb
  subst hb
  exact ⟨by decide, by decide, by decide⟩
 ·simp only [Ar, List.mem_singleton] at hf
  subst hf
  exact ⟨by decide, by decide, fun t ht => by simp only [List.mem_singleton] at ht; subst ht; decide⟩
def uo (l : List aq) (i : Nat) : Bool := !(decide (11 < i) || decide (100 < (l[i]!).length))
def p8 (l : List aq) : Bool := bO (uo l) 0 l.length
def FI (w : aR) : Bool := !(decide (100 < w.name.length) || decide (200 < w.range.length) || !p8 w.feats)
def DT (n : aJ) : Int := IntKind.i64.wrap ((n.when'.length : Int) + n.option.length)
def H6 (r : Rec) : Int := IntKind.i64.wrap ((r.name.length : Int) + r.v.pre.length)
def FM (r : Rec) : Int := IntKind.i64.wrap (H6 r + r.v.build.length)
def Cn (n : aJ) : Bool := !(decide (6 < n.any.length) || decide (300 < DT n)) && bO (fun k => FI n.any[k]!) 0 n.any.length
def DP (b : ec) : Bool := !(decide (100 < b.name.length) || decide (200 < b.range.length) || decide (200 < b.when'.length))
def DQ (f : ba) : Bool := !(decide (100 < f.name.length) || !p8 f.of)
def shH (r : Rec) : Bool := !(decide (12 < r.needs.length) || decide (12 < r.bars.length) || decide (12 < r.feats.length) || decide (200 < FM r))
def lv (r : Rec) : Bool := shH r && (bO (fun i => Cn r.needs[i]!) 0 r.needs.length && (bO (fun i => DP r.bars[i]!) 0 r.bars.length && bO (fun i => DQ r.feats[i]!) 0 r.feats.length))
end Go.Abs
end
section
namespace Go.Abs
open Go
def jH : aI := { np := 0, ns := 8, res := [⟨0, none⟩], rsh := [[.a]], body := (.seq (rg [gm (cb false)] [(0, 0)]) (.seq (rg [gx 76 [(cs [112, 97, 99, 107, 97, 103, 101, 32, 97, 112, 112, 32, 49, 46, 48, 46, 48, 10, 110, 101, 101, 100, 10, 97, 110, 121, 32, 98, 32, 120, 32, 102, 117, 108, 108, 32, 94, 49, 10, 119, 104, 101, 110, 32, 111, 115, 32, 61, 32, 120, 10, 98, 97, 114, 32, 99, 32, 42, 10, 102, 101, 97, 116, 117, 114, 101, 32, 121, 32, 98, 47, 122, 10])] [[.a]], gm l0, ge l1 0, ge l1 1, ge l1 2, gb 9 (.c (.agg [.str [], .int .i64 0, .int .i64 0, .int .i64 0, .str [], .str [], .av, .av, .av])), gt 9 l5 l2, gm l3, gm l4] [(1, 5), (2, 7), (4, 8)]) (.seq (rg [gk 9 true s1, gx 72 [l0] [[.a, .a, .a, .a, .a, .a, .sl 3 [.sl 4 [.a, .a, .sl 1 [.a], .a], .a, .a], .sl 3 [.a, .a, .a], .sl 2 [.a, .sl 1 [.a]]]], gm l1, ge l2 0, ge l2 1, gm l3, gm l4] [(5, 5), (3, 6)]) (.seq (rg [gx 76 [(cs [112, 97, 99, 107, 97, 103, 101, 32, 97, 112, 112, 32, 49, 46, 48, 46, 48, 10, 97, 110, 121, 32, 98, 32, 45, 32, 102, 117, 108, 108, 32, 42, 10])] [[.a]], gm l0, ge l1 0, ge l1 1, ge l1 2, gb 9 (.c (.agg [.str [], .int .i64 0, .int .i64 0, .int .i64 0, .str [], .str [], .av, .av, .av])), gt 9 l5 l2, gm l3, gm l4] [(6, 7), (7, 8)]) (.seq (rg [gm s2, gn (bA l0 (i6 0)), gm l1, ⟨.mv s3, some (2, true)⟩, ⟨.bin .eql l3 (i6 0), some (2, true)⟩, gn (.pick l2 l4 (cb false)), gm l5, ⟨.mv s4, some (6, true)⟩, ⟨.bin .eql l7 (i6 0), some (6, true)⟩, gn (.pick l6 l8 (cb false)), gm l9, ⟨.fa 6 s1, some (10, true)⟩, ⟨.ld 1 false kl, some (10, true)⟩, ⟨.len lJ, some (10, true)⟩, ⟨.bin .eql nB (i6 1), some (10, true)⟩, gn (.pick l10 nW (cb false)), gm oN, ⟨.fa 7 s1, some (16, true)⟩, ⟨.ld 1 false rT, some (16, true)⟩, ⟨.len rU, some (16, true)⟩, ⟨.bin .eql tK (i6 1), some (16, true)⟩, gn (.pick qm vz (cb false)), gm wi, ⟨.mv s5, some (22, true)⟩, ⟨.lenS yI, some (22, true)⟩, ⟨.bin .eql zK (i6 73), some (22, true)⟩, gn (.pick xf At (cb false)), gm Di, ⟨.mv s6, some (27, true)⟩, ⟨.bin .eql F1 (i6 2), some (27, true)⟩, gn (.pick Fi F2 (cb false)), gm HN, ⟨.mv s7, some (31, true)⟩, ⟨.bin .eql HP (i6 2), some (31, true)⟩, gn (.pick HO l33 (cb false)), gm l34] [(0, 35)]) .ret))))) }
theorem w69 {Γ : Ctx} (hm : (Γ.at 0).bN) (h72 : C72 (Γ.at 0)) (h76 : C76 (Γ.at 0))    : bo (Γ.at 0) jH.body (eC jH (.bool true) : Ex → List aN → St → Prop) (bF jH []) ⟨0, []⟩ := by
 show bo _ _ _ [.un, .un, .un, .un, .un, .un, .un, .un] ⟨0, []⟩
 refine aw ?_
 refine ae ?_
 refine ai [(0, ⟨_, .bool _⟩)] ?_
 refine ae ?_
 refine ay (v := .tup [Rec.D Ar, .int .i64 0, .int .i64 0]) (hc := by have := h76 awT; rw [aw1] at this; exact this) ?_
 refine ae ?_
 refine bg (Rec.D _) ?_
 refine bg (.int _ _) ?_
 refine bg (.int _ _) ?_
 refine aZ ?_
 refine aM (Rec.D Ar) (he := by exact rfl) ?_
 iterate 2 refine ae ?_
 refine ai [(1, ⟨_, _⟩), (2, ⟨_, .int _ _⟩), (4, ⟨_, .int _ _⟩)] ?_
 refine ae ?_
 refine bG (d := Rec.D Ar) ?_
 refine ay (v := .tup [.str awT, .int .i64 0]) (hc := by have := h72 Ar E6; rw [aw3] at this; exact this) ?_
 refine ae ?_
 refine bg (.str _) ?_
 refine bg (.int _ _) ?_
 iterate 2 refine ae ?_
 refine ai [(3, ⟨_, .int _ _⟩), (5, ⟨_, .str _⟩)] ?_
 refine ae ?_
 refine ay (v := .tup [Rec.D (fX CI).1, .int .i64 2, .int .i64 2]) (hc := by have := h76 CI; rw [aw2] at this; exact this) ?_
 refine ae ?_
 refine bg (Rec.D _) ?_
 refine bg (.int _ _) ?_
 refine bg (.int _ _) ?_
 refine aZ ?_
 refine aM (Rec.D (fX CI).1) (he := by exact rfl) ?_
 iterate 2 refine ae ?_
 refine ai [(6, ⟨_, .int _ _⟩), (7, ⟨_, .int _ _⟩)] ?_
 iterate 2 refine ae ?_
 refine aQ ?_
 iterate 2 refine ae ?_
 refine aQ ?_
 refine bK ?_
 iterate 2 refine ae ?_
 refine aQ ?_
 refine bK ?_
 iterate 2 refine ae ?_
 refine aj (v := .sl 3 (Ar.needs.map aJ.D)) ?_
 refine aC fun _ => ?_
 refine aQ ?_
 refine bK ?_
 iterate 2 refine ae ?_
 refine aj (v := .sl 3 (Ar.bars.map ec.D)) ?_
 refine aC fun _ => ?_
 refine aQ ?_
 refine bK ?_
 iterate 2 refine ae ?_
 refine cv fun _ => ?_
 refine aQ ?_
 refine bK ?_
 iterate 2 refine ae ?_
 refine aQ ?_
 refine bK ?_
 iterate 2 refine ae ?_
 refine aQ ?_
 refine bK ?_
 refine ae ?_
 refine ai [(0, ⟨_, .bool _⟩)] ?_
 refine ae ?_
 refine aB (congrArg D.bool ?_)
 decide
def C69 (Γ : Ctx) : Prop := Γ.pre 69 [] ∧ Γ.val 69 [] = .bool true
def jJ : aI := { np := 1, ns := 5, res := [⟨1, none⟩], rsh := [[.a]], body := (.seq (rg [gm (cb false)] [(1, 0)]) (.seq (.seq (rg [gm (i6 0)] [(2, 0)]) (.block 0 (.loop (.seq (.seq (rg [gm s2, gm s0, gl l1, gn (bQ l0 l2)] [(3, 3)]) (.cond s3 .skip (.exit 0))) (.seq (.block 1 (.seq (rg [gm s2, gn (fN l0 (i6 11)), gm l1, ⟨.mv s0, some (2, false)⟩, ⟨.mv s2, some (2, false)⟩, ⟨.ia 1 l3 l4, some (2, false)⟩, ⟨.ld 1 false l5, some (2, false)⟩, ⟨.lenS l6, some (2, false)⟩, ⟨.bin .gtr l7 (i6 100), some (2, false)⟩, gn (.pick l2 (cb true) l8)] [(4, 9)]) (.cond s4 (.seq (rg [gm (cb false)] [(1, 0)]) .ret) .skip))) (rg [gm s2, gn (bh l0 (i6 1)), gm l1] [(2, 2)])))))) (.seq (rg [gm (cb true)] [(1, 0)]) .ret))) }
theorem w207 {Γ : Ctx} (hm : (Γ.at 0).bN)  (l : List aq)   : bo (Γ.at 0) jJ.body (eC jJ (.bool (p8 l)) : Ex → List aN → St → Prop) (bF jJ [.sl 1 (l.map D.str)]) ⟨0, []⟩ := by
 show bo _ _ _ [⟨true, .sl 1 (l.map D.str)⟩, .un, .un, .un, .un] ⟨0, []⟩
 refine aw ?_
 refine ae ?_
 refine ai [(1, ⟨_, .bool _⟩)] ?_
 iterate 3 refine ae ?_
 refine ai [(2, ⟨_, .int _ _⟩)] ?_
 refine bz hm (ι := Nat) (fun i => [⟨true, .sl 1 (l.map D.str)⟩, ⟨true, .bool false⟩, ⟨true, .int .i64 (i : Nat)⟩, .un, .un]) (fun i => []) 2 (fun i => i ≤ l.length ∧ p8 l = bO (uo l) i l.length) (fun i => l.length - i) 0 ⟨by omega, rfl⟩ (az.to [] ah ah aX bJ) ?_
 rintro i ⟨hi, hr⟩
 iterate 4 refine ae ?_
 refine aC fun u0 => ?_; specialize u0 rfl rfl
 refine aW ?_
 refine ai [(3, ⟨_, .bool _⟩)] ?_
 refine ak (fun hc0 => ?_) (fun hc0 => ?_)
 ·try simp only [au] at hc0
  refine ae ?_
  refine ax ?_ hm
  iterate 2 refine ae ?_
  refine bE ?_
  iterate 3 refine ae ?_
  refine aP i (hb := fun _ => by omega) ?_
  refine aS (v := .str l[i]!) (hi := fun _ => by omega) ?_
  refine cv fun _ => ?_
  refine bE ?_
  refine bY ?_
  refine ai [(4, ⟨_, .bool _⟩)] ?_
  refine wp_cond (fun hc1 => ?_) (fun hc1 => ?_)
  ·simp only [Bool.or_eq_true, decide_eq_true_eq] at hc1
   iterate 2 refine ae ?_
   refine ai [(1, ⟨_, .bool _⟩)] ?_
   iterate 3 refine ae ?_
   refine aB (congrArg D.bool ?_)
   rw [hr, aD (by omega), show uo l i = false by unfold uo; rcases hc1 with h | h; (rw [decide_eq_true (show 11 < i by omega)]; rfl); (rw [decide_eq_true (show 100 < (l[i]!).length by omega), Bool.or_true]; rfl)]; rfl
  ·simp only [Bool.or_eq_false_iff, decide_eq_false_iff_not] at hc1
   iterate 4 refine ae ?_
   refine aF ?_
   refine ae ?_
   refine bL [(2, ⟨_, .int _ _⟩)] ?_
   refine ae ?_
   exact ⟨i + 1, ⟨by omega, by rw [hr, aD (by omega), show uo l i = true by unfold uo; rw [decide_eq_false (by omega), decide_eq_false (by omega)]; rfl]; rfl⟩, by omega, (az.to [] ah ah aX bJ)⟩
 ·try simp only [au] at hc0
  iterate 4 refine ae ?_
  refine ai [(1, ⟨_, .bool _⟩)] ?_
  refine ae ?_
  refine aB (congrArg D.bool ?_)
  rw [hr, bD (by omega)]
def Gd (Γ : Ctx) : Prop := ∀ (l : List aq), Γ.pre 207 [.sl 1 (l.map D.str)] ∧ Γ.val 207 [.sl 1 (l.map D.str)] = .bool (p8 l)
end Go.Abs
end
section
namespace Go.Abs
open Go
def jI : aI := { np := 1, ns := 18, res := [⟨1, none⟩], rsh := [[.a]], body := (.seq (rg [gb 9 s0, gm (cb false)] [(2, 0), (1, 1)]) (.seq (rg [gf 0 s2, gd l0, gn (.lenS l1), gf 1 s2, gf 3 l3, gd l4, gn (.lenS l5), gn (bh l2 l6), gf 1 s2, gf 4 l8, gd l9, gn (.lenS l10), gn (bh l7 kl), gm lJ] [(3, 13)]) (.seq (.seq (rg [gf 6 s2, gd l0, gl l1, gn (fN l2 (i6 12)), gm l3, ⟨.fa 7 s2, some (4, false)⟩, ⟨.ld 1 false l5, some (4, false)⟩, ⟨.len l6, some (4, false)⟩, ⟨.bin .gtr l7 (i6 12), some (4, false)⟩, gn (.pick l4 (cb true) l8), gm l9, ⟨.fa 8 s2, some (10, false)⟩, ⟨.ld 1 false kl, some (10, false)⟩, ⟨.len lJ, some (10, false)⟩, ⟨.bin .gtr nB (i6 12), some (10, false)⟩, gn (.pick l10 (cb true) nW), gm oN, ⟨.mv s3, some (16, false)⟩, ⟨.bin .gtr rT (i6 200), some (16, false)⟩, gn (.pick qm (cb true) rU)] [(4, 19)]) (.cond s4 (.seq (rg [gm (cb false)] [(1, 0)]) .ret) .skip)) (.seq (.seq (rg [gm (i6 0)] [(5, 0)]) (.block 0 (.loop (.seq (.seq (rg [gm s5, gf 6 s2, gd l1, gl l2, gn (bQ l0 l3)] [(6, 4)]) (.cond s6 .skip (.exit 0))) (.seq (.block 1 (.seq (.seq (rt [gf 6 s2, gd l0, gm s5, ga 3 l1 l2, gf 0 l3, gd l4, gl l5, gn (fN l6 (i6 6)), gm l7, ⟨.fa 6 s2, some (8, false)⟩, ⟨.ld 1 false l9, some (8, false)⟩, ⟨.mv s5, some (8, false)⟩, ⟨.ia 3 l10 kl, some (8, false)⟩, ⟨.fa 1 lJ, some (8, false)⟩, ⟨.ld 1 false nB, some (8, false)⟩, ⟨.lenS nW, some (8, false)⟩, ⟨.fa 6 s2, some (8, false)⟩, ⟨.ld 1 false qm, some (8, false)⟩, ⟨.mv s5, some (8, false)⟩, ⟨.ia 3 rT rU, some (8, false)⟩, ⟨.fa 2 tK, some (8, false)⟩, ⟨.ld 1 false vz, some (8, false)⟩, ⟨.lenS wi, some (8, false)⟩, ⟨.bin .add oN xf, some (8, false)⟩, ⟨.bin .gtr yI (i6 300), some (8, false)⟩, gn (.pick l8 (cb true) zK)] [(7, 25)]) (.cond s7 (.seq (rg [gm (cb false)] [(1, 0)]) .ret) .skip)) (.seq (rg [gm (i6 0)] [(8, 0)]) (.block 2 (.loop (.seq (.seq (rg [gm s8, gf 6 s2, gd l1, gm s5, ga 3 l2 l3, gf 0 l4, gd l5, gl l6, gn (bQ l0 l7)] [(9, 8)]) (.cond s9 .skip (.exit 2))) (.seq (.block 3 (.seq (rg [gf 6 s2, gd l0, gm s5, ga 3 l1 l2, gf 0 l3, gd l4, gm s8, ga 4 l5 l6, gk 4 true l7, gb 4 (.c (.agg [.str [], .str [], .av, .bool false])), gt 4 l9 l8] [(10, 9)]) (.seq (rg [gf 0 kF, gd l0, gn (.lenS l1), gn (fN l2 (i6 100)), gm l3, ⟨.fa 1 kF, some (4, false)⟩, ⟨.ld 1 false l5, some (4, false)⟩, ⟨.lenS l6, some (4, false)⟩, ⟨.bin .gtr l7 (i6 200), some (4, false)⟩, gn (.pick l4 (cb true) l8), gm l9, ⟨.fa 2 kF, some (10, false)⟩, ⟨.ld 1 false kl, some (10, false)⟩, ⟨.call 207 [lJ] [[.sl 1 [.a]]], some (10, false)⟩, ⟨.un .not nB, some (10, false)⟩, gn (.pick l10 (cb true) nW)] [(11, 15)]) (.cond mV (.seq (rg [gm (cb false)] [(1, 0)]) .ret) .skip)))) (rg [gm s8, gn (bh l0 (i6 1)), gm l1] [(8, 2)])))))))) (rg [gm s5, gn (bh l0 (i6 1)), gm l1] [(5, 2)])))))) (.seq (.seq (rg [gm (i6 0)] [(12, 0)]) (.block 4 (.loop (.seq (.seq (rg [gm jV, gf 7 s2, gd l1, gl l2, gn (bQ l0 l3)] [(13, 4)]) (.cond ri .skip (.exit 4))) (.seq (.block 5 (.seq (rg [gf 7 s2, gd l0, gm jV, ga 3 l1 l2, gf 0 l3, gd l4, gn (.lenS l5), gn (fN l6 (i6 100)), gm l7, ⟨.fa 7 s2, some (8, false)⟩, ⟨.ld 1 false l9, some (8, false)⟩, ⟨.mv jV, some (8, false)⟩, ⟨.ia 3 l10 kl, some (8, false)⟩, ⟨.fa 1 lJ, some (8, false)⟩, ⟨.ld 1 false nB, some (8, false)⟩, ⟨.lenS nW, some (8, false)⟩, ⟨.bin .gtr oN (i6 200), some (8, false)⟩, gn (.pick l8 (cb true) qm), gm rT, ⟨.fa 7 s2, some (18, false)⟩, ⟨.ld 1 false tK, some (18, false)⟩, ⟨.mv jV, some (18, false)⟩, ⟨.ia 3 vz wi, some (18, false)⟩, ⟨.fa 2 xf, some (18, false)⟩, ⟨.ld 1 false yI, some (18, false)⟩, ⟨.lenS zK, some (18, false)⟩, ⟨.bin .gtr At (i6 200), some (18, false)⟩, gn (.pick rU (cb true) Di)] [(14, 27)]) (.cond vj (.seq (rg [gm (cb false)] [(1, 0)]) .ret) .skip))) (rg [gm jV, gn (bh l0 (i6 1)), gm l1] [(12, 2)])))))) (.seq (.seq (rg [gm (i6 0)] [(15, 0)]) (.block 6 (.loop (.seq (.seq (rg [gm sE, gf 8 s2, gd l1, gl l2, gn (bQ l0 l3)] [(16, 4)]) (.cond y6 .skip (.exit 6))) (.seq (.block 7 (.seq (rg [gf 8 s2, gd l0, gm sE, ga 2 l1 l2, gf 0 l3, gd l4, gn (.lenS l5), gn (fN l6 (i6 100)), gm l7, ⟨.fa 8 s2, some (8, false)⟩, ⟨.ld 1 false l9, some (8, false)⟩, ⟨.mv sE, some (8, false)⟩, ⟨.ia 2 l10 kl, some (8, false)⟩, ⟨.fa 1 lJ, some (8, false)⟩, ⟨.ld 1 false nB, some (8, false)⟩, ⟨.call 207 [nW] [[.sl 1 [.a]]], some (8, false)⟩, ⟨.un .not oN, some (8, false)⟩, gn (.pick l8 (cb true) qm)] [(17, 17)]) (.cond wS (.seq (rg [gm (cb false)] [(1, 0)]) .ret) .skip))) (rg [gm sE, gn (bh l0 (i6 1)), gm l1] [(15, 2)])))))) (.seq (rg [gm (cb true)] [(1, 0)]) .ret))))))) }
theorem w68 {Γ : Ctx} (hm : (Γ.at 0).bN) (h207 : Gd (Γ.at 0)) (r : Rec)   : bo (Γ.at 0) jI.body (eC jI (.bool (lv r)) : Ex → List aN → St → Prop) (bF jI [Rec.D r]) ⟨0, []⟩ := by
 show bo _ _ _ [⟨true, Rec.D r⟩, .un, .un, .un, .un, .un, .un, .un, .un, .un, .un, .un, .un, .un, .un, .un, .un, .un] ⟨0, []⟩
 refine aw ?_
 refine aZ ?_
 refine ae ?_
 refine ai [(1, ⟨_, .bool _⟩), (2, ⟨_, _⟩)] ?_
 iterate 2 refine ae ?_
 refine aj (v := (.str _)) ?_
 refine cv fun u0 => ?_; specialize u0 rfl rfl
 iterate 2 refine ae ?_
 refine aj (v := (.str _)) ?_
 refine cv fun u1 => ?_; specialize u1 rfl rfl
 refine xX (H6 r) (hb := fun _ => rfl) ?_
 iterate 2 refine ae ?_
 refine aj (v := (.str _)) ?_
 refine cv fun u2 => ?_; specialize u2 rfl rfl
 refine xX (FM r) (hb := fun _ => rfl) ?_
 refine ae ?_
 refine ai [(3, ⟨_, .int _ _⟩)] ?_
 iterate 3 refine ae ?_
 first | refine aj (v := .sl _ _) ?_ | refine aj (v := .own _ _ _ _) ?_ | refine aj (v := .av) ?_
 refine aC fun u3 => ?_; specialize u3 rfl rfl
 refine bE ?_
 iterate 2 refine ae ?_
 first | refine aj (v := .sl _ _) ?_ | refine aj (v := .own _ _ _ _) ?_ | refine aj (v := .av) ?_
 refine aC fun _ => ?_
 refine bE ?_
 refine bY ?_
 iterate 2 refine ae ?_
 first | refine aj (v := .sl _ _) ?_ | refine aj (v := .own _ _ _ _) ?_ | refine aj (v := .av) ?_
 refine aC fun _ => ?_
 refine bE ?_
 refine bY ?_
 iterate 2 refine ae ?_
 refine bE ?_
 refine bY ?_
 refine ai [(4, ⟨_, .bool _⟩)] ?_
 refine ak (fun hc0 => ?_) (fun hc0 => ?_)
 ·simp only [Bool.or_eq_true, decide_eq_true_eq] at hc0
  iterate 3 refine ae ?_
  refine ai [(1, ⟨_, .bool _⟩)] ?_
  refine ae ?_
  refine aB (congrArg D.bool ?_)
  unfold lv shH
  rcases hc0 with ((h | h) | h) | h
  ·rw [decide_eq_true (show 12 < r.needs.length by omega)]; simp
  ·rw [decide_eq_true (show 12 < r.bars.length by omega)]; simp
  ·rw [decide_eq_true (show 12 < r.feats.length by omega)]; simp
  ·rw [decide_eq_true (show 200 < FM r by omega)]; simp
 ·simp only [Bool.or_eq_false_iff, decide_eq_false_iff_not] at hc0
  obtain ⟨⟨⟨g1, g2⟩, g3⟩, g4⟩ := hc0
  have hH : shH r = true := by unfold shH; rw [decide_eq_false (by omega), decide_eq_false (by omega), decide_eq_false (by omega), decide_eq_false (by omega)]; rfl
  iterate 4 refine ae ?_
  refine ai [(5, ⟨_, .int _ _⟩)] ?_
  refine bz hm (ι := Nat) (fun i => [.un, ⟨true, .bool false⟩, ⟨true, .ptr 0 9 0 0⟩, .un, .un, ⟨true, .int .i64 (i : Nat)⟩, .un, .un, .un, .un, .un, .un, .un, .un, .un, .un, .un, .un]) (fun i => [(0, .buf 9 [Rec.D r])]) 37 (fun i => i ≤ r.needs.length ∧ bO (fun i => Cn r.needs[i]!) 0 r.needs.length = bO (fun i => Cn r.needs[i]!) i r.needs.length) (fun i => r.needs.length - i) 0 ⟨by omega, rfl⟩ (az.to [(0, 0)] ah ah aX bJ) ?_
  rintro i ⟨hi, hr⟩
  iterate 4 refine ae ?_
  first | refine aj (v := .sl _ _) ?_ | refine aj (v := .own _ _ _ _) ?_ | refine aj (v := .av) ?_
  refine aC fun u4 => ?_; specialize u4 rfl rfl
  refine aW ?_
  refine ai [(6, ⟨_, .bool _⟩)] ?_
  refine ak (fun hc1 => ?_) (fun hc1 => ?_)
  ·try simp only [au] at hc1
   refine ae ?_
   refine ax ?_ hm
   iterate 3 refine ae ?_
   first | refine aj (v := .sl _ _) ?_ | refine aj (v := .own _ _ _ _) ?_ | refine aj (v := .av) ?_
   refine ae ?_
   refine aP i (hb := fun _ => by omega) ?_
   refine ez ?_
   refine aS (v := .sl 4 (r.needs[i]!.any.map aR.D)) (hi := fun _ => by omega) ?_
   refine aC fun _ => ?_
   refine bE ?_
   iterate 2 refine ae ?_
   first | refine aj (v := .sl _ _) ?_ | refine aj (v := .own _ _ _ _) ?_ | refine aj (v := .av) ?_
   refine ae ?_
   refine aP i (hb := fun _ => by omega) ?_
   refine ez ?_
   refine aS (v := .str r.needs[i]!.when') (hi := fun _ => by omega) ?_
   refine cv fun _ => ?_
   refine ae ?_
   first | refine aj (v := .sl _ _) ?_ | refine aj (v := .own _ _ _ _) ?_ | refine aj (v := .av) ?_
   refine ae ?_
   refine aP i (hb := fun _ => by omega) ?_
   refine ez ?_
   refine aS (v := .str r.needs[i]!.option) (hi := fun _ => by omega) ?_
   refine cv fun _ => ?_
   refine xX (DT r.needs[i]!) (hb := fun _ => rfl) ?_
   refine bE ?_
   refine bY ?_
   refine ai [(7, ⟨_, .bool _⟩)] ?_
   refine ak (fun hc2 => ?_) (fun hc2 => ?_)
   ·simp only [Bool.or_eq_true, decide_eq_true_eq] at hc2
    iterate 3 refine ae ?_
    refine ai [(1, ⟨_, .bool _⟩)] ?_
    iterate 3 refine ae ?_
    refine aB (congrArg D.bool ?_)
    have hf : Cn r.needs[i]! = false := by
     unfold Cn
     rcases hc2 with h | h
     ·rw [decide_eq_true (show 6 < r.needs[i]!.any.length by omega)]; rfl
     ·rw [decide_eq_true (show 300 < DT r.needs[i]! by omega), Bool.or_true]; rfl
    unfold lv
    rw [hr, aD (by omega), hf]; simp
   ·simp only [Bool.or_eq_false_iff, decide_eq_false_iff_not] at hc2
    have hn0 : (!(decide (6 < r.needs[i]!.any.length) || decide (300 < DT r.needs[i]!))) = true := by rw [decide_eq_false (by omega), decide_eq_false (by omega)]; rfl
    iterate 3 refine ae ?_
    refine ai [(8, ⟨_, .int _ _⟩)] ?_
    refine na hm (ι := Nat) (fun k => [.un, ⟨true, .bool false⟩, ⟨true, .ptr 0 9 0 0⟩, .un, .un, ⟨true, .int .i64 (i : Nat)⟩, .un, .un, ⟨true, .int .i64 (k : Nat)⟩, .un, .un, .un, .un, .un, .un, .un, .un, .un]) (fun k => [(0, .buf 9 [Rec.D r])]) 69 (fun k => k ≤ r.needs[i]!.any.length ∧ bO (fun k => FI r.needs[i]!.any[k]!) 0 r.needs[i]!.any.length = bO (fun k => FI r.needs[i]!.any[k]!) k r.needs[i]!.any.length) (fun k => r.needs[i]!.any.length - k) 0 ⟨by omega, rfl⟩ (az.to [(0, 0)] ah ah aX bJ) ?_
    rintro k ⟨hk, hr2⟩
    iterate 4 refine ae ?_
    first | refine aj (v := .sl _ _) ?_ | refine aj (v := .own _ _ _ _) ?_ | refine aj (v := .av) ?_
    refine ae ?_
    refine aP i (hb := fun _ => by omega) ?_
    refine ez ?_
    refine aS (v := .sl 4 (r.needs[i]!.any.map aR.D)) (hi := fun _ => by omega) ?_
    refine aC fun u5 => ?_; specialize u5 rfl rfl
    refine aW ?_
    refine ai [(9, ⟨_, .bool _⟩)] ?_
    refine ak (fun hc3 => ?_) (fun hc3 => ?_)
    ·try simp only [au] at hc3
     refine ae ?_
     refine ax ?_ hm
     iterate 2 refine ae ?_
     first | refine aj (v := .sl _ _) ?_ | refine aj (v := .own _ _ _ _) ?_ | refine aj (v := .av) ?_
     refine ae ?_
     refine aP i (hb := fun _ => by omega) ?_
     refine ez ?_
     refine aS (v := .sl 4 (r.needs[i]!.any.map aR.D)) (hi := fun _ => by omega) ?_
     refine ae ?_
     refine aP k (hb := fun _ => by omega) ?_
     refine aS (v := aR.D r.needs[i]!.any[k]!) (hi := fun _ => by omega) ?_
     refine aZ ?_
     refine aM (aR.D r.needs[i]!.any[k]!) (he := by exact rfl) ?_
     refine ai [(10, ⟨_, _⟩)] ?_
     iterate 2 refine ae ?_
     refine aj (v := (.str _)) ?_
     refine cv fun u6 => ?_; specialize u6 rfl rfl
     refine bE ?_
     iterate 2 refine ae ?_
     refine aj (v := (.str _)) ?_
     refine cv fun _ => ?_
     refine bE ?_
     refine bY ?_
     iterate 2 refine ae ?_
     refine aj (v := .sl 1 (r.needs[i]!.any[k]!.feats.map D.str)) ?_
     refine ay (hc := h207 r.needs[i]!.any[k]!.feats) ?_
     refine ct ?_
     refine bY ?_
     refine ai [(11, ⟨_, .bool _⟩)] ?_
     refine wp_cond (fun hc4 => ?_) (fun hc4 => ?_)
     ·simp only [Bool.or_eq_true, decide_eq_true_eq, Bool.not_eq_true'] at hc4
      iterate 2 refine ae ?_
      refine ai [(1, ⟨_, .bool _⟩)] ?_
      iterate 2 refine ae ?_
      refine oe.ret ?_
      iterate 2 refine ae ?_
      refine aB (congrArg D.bool ?_)
      have hf : FI r.needs[i]!.any[k]! = false := by
       unfold FI
       rcases hc4 with (h | h) | h
       ·rw [decide_eq_true (show 100 < r.needs[i]!.any[k]!.name.length by omega)]; rfl
       ·rw [decide_eq_true (show 200 < r.needs[i]!.any[k]!.range.length by omega), Bool.or_true]; rfl
       ·rw [h]; simp
      have hf2 : Cn r.needs[i]! = false := by unfold Cn; rw [hr2, aD (by omega), hf]; simp
      unfold lv
      rw [hr, aD (by omega), hf2]; simp
     ·simp only [Bool.or_eq_false_iff, decide_eq_false_iff_not, Bool.not_eq_false'] at hc4
      have hwi : FI r.needs[i]!.any[k]! = true := by unfold FI; rw [decide_eq_false (by omega), decide_eq_false (by omega), hc4.2]; rfl
      iterate 4 refine ae ?_
      refine aF ?_
      refine ae ?_
      refine bL [(8, ⟨_, .int _ _⟩)] ?_
      refine oe.normal ?_
      exact ⟨k + 1, ⟨by omega, by rw [hr2, aD (by omega), hwi]; rfl⟩, by omega, (az.to [(0, 0)] ah ah aX bJ)⟩
    ·try simp only [au] at hc3
     refine ae ?_
     refine oe.out ?_
     iterate 2 refine ae ?_
     have hni : Cn r.needs[i]! = true := by unfold Cn; rw [hn0, hr2, bD (by omega)]; rfl
     refine ae ?_
     refine aF ?_
     refine ae ?_
     refine bL [(5, ⟨_, .int _ _⟩)] ?_
     refine ae ?_
     exact ⟨i + 1, ⟨by omega, by rw [hr, aD (by omega), hni]; rfl⟩, by omega, (az.to [(0, 0)] ah ah aX bJ)⟩
  ·try simp only [au] at hc1
   iterate 4 refine ae ?_
   have hN : bO (fun i => Cn r.needs[i]!) 0 r.needs.length = true := by rw [hr, bD (by omega)]
   refine ae ?_
   refine ai [(12, ⟨_, .int _ _⟩)] ?_
   refine bz hm (ι := Nat) (fun i => [.un, ⟨true, .bool false⟩, ⟨true, .ptr 0 9 0 0⟩, .un, .un, .un, .un, .un, .un, .un, .un, .un, ⟨true, .int .i64 (i : Nat)⟩, .un, .un, .un, .un, .un]) (fun i => [(0, .buf 9 [Rec.D r])]) 43 (fun i => i ≤ r.bars.length ∧ bO (fun i => DP r.bars[i]!) 0 r.bars.length = bO (fun i => DP r.bars[i]!) i r.bars.length) (fun i => r.bars.length - i) 0 ⟨by omega, rfl⟩ (az.to [(0, 0)] ah ah aX bJ) ?_
   rintro i ⟨hi, hr⟩
   iterate 4 refine ae ?_
   first | refine aj (v := .sl _ _) ?_ | refine aj (v := .own _ _ _ _) ?_ | refine aj (v := .av) ?_
   refine aC fun u7 => ?_; specialize u7 rfl rfl
   refine aW ?_
   refine ai [(13, ⟨_, .bool _⟩)] ?_
   refine ak (fun hc5 => ?_) (fun hc5 => ?_)
   ·try simp only [au] at hc5
    refine ae ?_
    refine ax ?_ hm
    iterate 2 refine ae ?_
    first | refine aj (v := .sl _ _) ?_ | refine aj (v := .own _ _ _ _) ?_ | refine aj (v := .av) ?_
    refine ae ?_
    refine aP i (hb := fun _ => by omega) ?_
    refine ez ?_
    refine aS (v := .str r.bars[i]!.name) (hi := fun _ => by omega) ?_
    refine cv fun u8 => ?_; specialize u8 rfl rfl
    refine bE ?_
    iterate 2 refine ae ?_
    first | refine aj (v := .sl _ _) ?_ | refine aj (v := .own _ _ _ _) ?_ | refine aj (v := .av) ?_
    refine ae ?_
    refine aP i (hb := fun _ => by omega) ?_
    refine ez ?_
    first | refine aS (v := (.str _)) ?_ | refine bH (v := (.str _)) ?_
    refine cv fun _ => ?_
    refine bE ?_
    refine bY ?_
    iterate 2 refine ae ?_
    first | refine aj (v := .sl _ _) ?_ | refine aj (v := .own _ _ _ _) ?_ | refine aj (v := .av) ?_
    refine ae ?_
    refine aP i (hb := fun _ => by omega) ?_
    refine ez ?_
    first | refine aS (v := (.str _)) ?_ | refine bH (v := (.str _)) ?_
    refine cv fun _ => ?_
    refine bE ?_
    refine bY ?_
    refine ai [(14, ⟨_, .bool _⟩)] ?_
    refine wp_cond (fun hc6 => ?_) (fun hc6 => ?_)
    ·simp only [Bool.or_eq_true, decide_eq_true_eq] at hc6
     iterate 2 refine ae ?_
     refine ai [(1, ⟨_, .bool _⟩)] ?_
     iterate 3 refine ae ?_
     refine aB (congrArg D.bool ?_)
     have hf : DP r.bars[i]! = false := by
      unfold DP
      rcases hc6 with (h | h) | h
      ·rw [decide_eq_true (show 100 < r.bars[i]!.name.length by omega)]; rfl
      ·rw [decide_eq_true (show 200 < r.bars[i]!.range.length by omega), Bool.or_true]; rfl
      ·rw [decide_eq_true (show 200 < r.bars[i]!.when'.length by omega), Bool.or_true]; rfl
     have hz : bO (fun i => DP r.bars[i]!) 0 r.bars.length = false := by rw [hr, aD (by omega), hf]; rfl
     unfold lv
     rw [hz]; simp
    ·simp only [Bool.or_eq_false_iff, decide_eq_false_iff_not] at hc6
     have hbi : DP r.bars[i]! = true := by unfold DP; rw [decide_eq_false (by omega), decide_eq_false (by omega), decide_eq_false (by omega)]; rfl
     iterate 4 refine ae ?_
     refine aF ?_
     refine ae ?_
     refine bL [(12, ⟨_, .int _ _⟩)] ?_
     refine ae ?_
     exact ⟨i + 1, ⟨by omega, by rw [hr, aD (by omega), hbi]; rfl⟩, by omega, (az.to [(0, 0)] ah ah aX bJ)⟩
   ·try simp only [au] at hc5
    iterate 4 refine ae ?_
    have hB : bO (fun i => DP r.bars[i]!) 0 r.bars.length = true := by rw [hr, bD (by omega)]
    refine ae ?_
    refine ai [(15, ⟨_, .int _ _⟩)] ?_
    refine bz hm (ι := Nat) (fun i => [.un, ⟨true, .bool false⟩, ⟨true, .ptr 0 9 0 0⟩, .un, .un, .un, .un, .un, .un, .un, .un, .un, .un, .un, .un, ⟨true, .int .i64 (i : Nat)⟩, .un, .un]) (fun i => [(0, .buf 9 [Rec.D r])]) 49 (fun i => i ≤ r.feats.length ∧ bO (fun i => DQ r.feats[i]!) 0 r.feats.length = bO (fun i => DQ r.feats[i]!) i r.feats.length) (fun i => r.feats.length - i) 0 ⟨by omega, rfl⟩ (az.to [(0, 0)] ah ah aX bJ) ?_
    rintro i ⟨hi, hr⟩
    iterate 4 refine ae ?_
    first | refine aj (v := .sl _ _) ?_ | refine aj (v := .own _ _ _ _) ?_ | refine aj (v := .av) ?_
    refine aC fun u9 => ?_; specialize u9 rfl rfl
    refine aW ?_
    refine ai [(16, ⟨_, .bool _⟩)] ?_
    refine ak (fun hc7 => ?_) (fun hc7 => ?_)
    ·try simp only [au] at hc7
     refine ae ?_
     refine ax ?_ hm
     iterate 2 refine ae ?_
     first | refine aj (v := .sl _ _) ?_ | refine aj (v := .own _ _ _ _) ?_ | refine aj (v := .av) ?_
     refine ae ?_
     refine aP i (hb := fun _ => by omega) ?_
     refine ez ?_
     refine aS (v := .str r.feats[i]!.name) (hi := fun _ => by omega) ?_
     refine cv fun u10 => ?_; specialize u10 rfl rfl
     refine bE ?_
     iterate 2 refine ae ?_
     first | refine aj (v := .sl _ _) ?_ | refine aj (v := .own _ _ _ _) ?_ | refine aj (v := .av) ?_
     refine ae ?_
     refine aP i (hb := fun _ => by omega) ?_
     refine ez ?_
     refine aS (v := .sl 1 (r.feats[i]!.of.map D.str)) (hi := fun _ => by omega) ?_
     refine ay (hc := h207 r.feats[i]!.of) ?_
     refine ct ?_
     refine bY ?_
     refine ai [(17, ⟨_, .bool _⟩)] ?_
     refine wp_cond (fun hc8 => ?_) (fun hc8 => ?_)
     ·simp only [Bool.or_eq_true, decide_eq_true_eq, Bool.not_eq_true'] at hc8
      iterate 2 refine ae ?_
      refine ai [(1, ⟨_, .bool _⟩)] ?_
      iterate 3 refine ae ?_
      refine aB (congrArg D.bool ?_)
      have hf : DQ r.feats[i]! = false := by
       unfold DQ
       rcases hc8 with h | h
       ·rw [decide_eq_true (show 100 < r.feats[i]!.name.length by omega)]; rfl
       ·rw [h]; simp
      have hz : bO (fun i => DQ r.feats[i]!) 0 r.feats.length = false := by rw [hr, aD (by omega), hf]; rfl
      unfold lv
      rw [hz]; simp
     ·simp only [Bool.or_eq_false_iff, decide_eq_false_iff_not, Bool.not_eq_false'] at hc8
      have hfi : DQ r.feats[i]! = true := by unfold DQ; rw [decide_eq_false (by omega), hc8.2]; rfl
      iterate 4 refine ae ?_
      refine aF ?_
      refine ae ?_
      refine bL [(15, ⟨_, .int _ _⟩)] ?_
      refine ae ?_
      exact ⟨i + 1, ⟨by omega, by rw [hr, aD (by omega), hfi]; rfl⟩, by omega, (az.to [(0, 0)] ah ah aX bJ)⟩
    ·try simp only [au] at hc7
     iterate 4 refine ae ?_
     refine ai [(1, ⟨_, .bool _⟩)] ?_
     refine ae ?_
     refine aB (congrArg D.bool ?_)
     have hF : bO (fun i => DQ r.feats[i]!) 0 r.feats.length = true := by rw [hr, bD (by omega)]
     unfold lv
     rw [hH, hN, hB, hF]; rfl
def C68 (Γ : Ctx) : Prop := ∀ (r : Rec), Γ.pre 68 [Rec.D r] ∧ Γ.val 68 [Rec.D r] = .bool (lv r)
end Go.Abs
end
section
namespace Go.Abs
open Go
end Go.Abs
end
section
namespace Go.Abs
open Go
end Go.Abs
end
section
namespace Go.Abs
open Go
end Go.Abs
end
section
namespace Go.Abs
open Go
def eG : aI := { np := 2, ns := 6, res := [⟨2, none⟩], rsh := [[.a]], body := (.seq (rg [gb 9 s0, gb 9 s1, gm (cb false)] [(3, 0), (4, 1), (2, 2)]) (.seq (.seq (rg [gk 9 true s3, gx 68 [l0] [[.a, .a, .a, .a, .a, .a, .sl 3 [.sl 4 [.a, .a, .sl 1 [.a], .a], .a, .a], .sl 3 [.a, .a, .a], .sl 2 [.a, .sl 1 [.a]]]], gn (.un .not l1), gm l2, ⟨.ld 9 true s4, some (3, false)⟩, ⟨.call 68 [l4] [[.a, .a, .a, .a, .a, .a, .sl 3 [.sl 4 [.a, .a, .sl 1 [.a], .a], .a, .a], .sl 3 [.a, .a, .a], .sl 2 [.a, .sl 1 [.a]]]], some (3, false)⟩, ⟨.un .not l5, some (3, false)⟩, gn (.pick l3 (cb true) l6)] [(5, 7)]) (.cond s5 (.seq (rg [gx 69 [] [], gm l0] [(2, 1)]) .ret) .skip)) (.seq (rt [gx 69 [] [], gm l0, ⟨.ld 9 true s3, some (1, true)⟩, ⟨.ld 9 true s4, some (1, true)⟩, ⟨.call 80 [l2, l3] [[.a, .a, .a, .a, .a, .a, .sl 3 [.sl 4 [.a, .a, .sl 1 [.a], .a], .a, .a], .sl 3 [.a, .a, .a], .sl 2 [.a, .sl 1 [.a]]], [.a, .a, .a, .a, .a, .a, .sl 3 [.sl 4 [.a, .a, .sl 1 [.a], .a], .a, .a], .sl 3 [.a, .a, .a], .sl 2 [.a, .sl 1 [.a]]]], some (1, true)⟩, ⟨.ld 9 true s3, some (1, true)⟩, ⟨.ld 9 true s4, some (1, true)⟩, ⟨.call 78 [l5, l6] [[.a, .a, .a, .a, .a, .a, .sl 3 [.sl 4 [.a, .a, .sl 1 [.a], .a], .a, .a], .sl 3 [.a, .a, .a], .sl 2 [.a, .sl 1 [.a]]], [.a, .a, .a, .a, .a, .a, .sl 3 [.sl 4 [.a, .a, .sl 1 [.a], .a], .a, .a], .sl 3 [.a, .a, .a], .sl 2 [.a, .sl 1 [.a]]]], some (1, true)⟩, ⟨.eqA false false [.b] l4 l7, some (1, true)⟩, gn (.pick l1 l8 (cb false)), gm l9, ⟨.ld 9 true s3, some (10, true)⟩, ⟨.ld 9 true s3, some (10, true)⟩, ⟨.call 80 [kl, lJ] [[.a, .a, .a, .a, .a, .a, .sl 3 [.sl 4 [.a, .a, .sl 1 [.a], .a], .a, .a], .sl 3 [.a, .a, .a], .sl 2 [.a, .sl 1 [.a]]], [.a, .a, .a, .a, .a, .a, .sl 3 [.sl 4 [.a, .a, .sl 1 [.a], .a], .a, .a], .sl 3 [.a, .a, .a], .sl 2 [.a, .sl 1 [.a]]]], some (10, true)⟩, gn (.pick l10 nB (cb false)), gm nW, ⟨.ld 9 true s4, some (15, true)⟩, ⟨.ld 9 true s3, some (15, true)⟩, ⟨.call 80 [qm, rT] [[.a, .a, .a, .a, .a, .a, .sl 3 [.sl 4 [.a, .a, .sl 1 [.a], .a], .a, .a], .sl 3 [.a, .a, .a], .sl 2 [.a, .sl 1 [.a]]], [.a, .a, .a, .a, .a, .a, .sl 3 [.sl 4 [.a, .a, .sl 1 [.a], .a], .a, .a], .sl 3 [.a, .a, .a], .sl 2 [.a, .sl 1 [.a]]]], some (15, true)⟩, ⟨.ld 9 true s3, some (15, true)⟩, ⟨.ld 9 true s4, some (15, true)⟩, ⟨.call 80 [tK, vz] [[.a, .a, .a, .a, .a, .a, .sl 3 [.sl 4 [.a, .a, .sl 1 [.a], .a], .a, .a], .sl 3 [.a, .a, .a], .sl 2 [.a, .sl 1 [.a]]], [.a, .a, .a, .a, .a, .a, .sl 3 [.sl 4 [.a, .a, .sl 1 [.a], .a], .a, .a], .sl 3 [.a, .a, .a], .sl 2 [.a, .sl 1 [.a]]]], some (15, true)⟩, ⟨.eqA false false [.b] rU wi, some (15, true)⟩, gn (.pick oN xf (cb false)), gm yI] [(2, 24)]) .ret))) }
theorem Ic {Γ : Ctx} (hm : (Γ.at 0).bN) (h68 : C68 (Γ.at 0)) (h69 : C69 (Γ.at 0)) (h78 : C78 (Γ.at 0)) (h80 : C80 (Γ.at 0)) (a : Rec) (b : Rec)   : bo (Γ.at 0) eG.body (eC eG (.bool true) : Ex → List aN → St → Prop) (bF eG [Rec.D a, Rec.D b]) ⟨0, []⟩ := by
 show bo _ _ _ [⟨true, Rec.D a⟩, ⟨true, Rec.D b⟩, .un, .un, .un, .un] ⟨0, []⟩
 refine aw ?_
 refine aZ ?_
 refine aZ ?_
 refine ae ?_
 refine ai [(2, ⟨_, .bool _⟩), (3, ⟨_, _⟩), (4, ⟨_, _⟩)] ?_
 iterate 2 refine ae ?_
 refine bG ?_
 refine ay (hc := h68 a) ?_
 refine ct ?_
 refine ae ?_
 refine bG ?_
 refine ay (hc := h68 b) ?_
 refine ct ?_
 refine bY ?_
 refine ai [(5, ⟨_, .bool _⟩)] ?_
 refine ak (fun hc0 => ?_) (fun hc0 => ?_)
 ·try simp only [au] at hc0
  iterate 2 refine ae ?_
  refine ay (hc := h69) ?_
  refine ae ?_
  refine ai [(2, ⟨_, .bool _⟩)] ?_
  refine ae ?_
  refine aB (congrArg D.bool ?_)
  rfl
 ·try simp only [au] at hc0
  iterate 2 refine ae ?_
  refine ay (hc := h69) ?_
  refine ae ?_
  refine bG (d := Rec.D a) ?_
  refine bG (d := Rec.D b) ?_
  refine ay (hc := h80 a b) ?_
  refine bG (d := Rec.D a) ?_
  refine bG (d := Rec.D b) ?_
  refine ay (hc := h78 a b) ?_
  refine wJ (hb := CW _ _) ?_
  refine bK ?_
  refine ae ?_
  refine bG (d := Rec.D a) ?_
  refine bG (d := Rec.D a) ?_
  refine ay (hc := h80 a a) ?_
  refine bK ?_
  refine ae ?_
  refine bG (d := Rec.D b) ?_
  refine bG (d := Rec.D a) ?_
  refine ay (hc := h80 b a) ?_
  refine bG (d := Rec.D a) ?_
  refine bG (d := Rec.D b) ?_
  refine ay (hc := h80 a b) ?_
  refine wJ (hb := CW _ _) ?_
  refine bK ?_
  refine ae ?_
  refine ai [(2, ⟨_, .bool _⟩)] ?_
  refine ae ?_
  refine aB (congrArg D.bool ?_)
  have e : decide (b = a) = decide (a = b) := decide_eq_decide.2 ⟨Eq.symm, Eq.symm⟩
  rw [e]; simp
end Go.Abs
end
section
namespace Go.Abs
def E8 : List D → Nat
 | _ :: .int _ (.ofNat 4) :: _ => 3
 | _ => 1
def A68 (T : RT) : Prop := ∀ (r : Rec), T [Rec.D r] (.bool (lv r))
def A69 (T : RT) : Prop := T [] (.bool true)
def A70 (T : RT) : Prop := ∀ (r : Rec), (kD r) → T [Rec.D r] (.tup [.int .i64 (cC r).1, .int .i64 (cC r).2])
def A72 (T : RT) : Prop := ∀ (r : Rec), (kD r) → T [Rec.D r] (.tup [.str (lj r).1, .int .i64 (lj r).2])
def A76 (T : RT) : Prop := ∀ (s : aq), T [.str s] (.tup [Rec.D (fX s).1, .int .i64 (fX s).2.1, .int .i64 (fX s).2.2])
def A78 (T : RT) : Prop := ∀ (a : Rec) (b : Rec), T [Rec.D a, Rec.D b] (.bool (decide (a = b)))
def A80 (T : RT) : Prop := ∀ (a : Rec) (b : Rec), T [Rec.D a, Rec.D b] (.bool (decide (a = b)))
def F7 (T : RT) : Prop := ∀ (s : aq) (b : UInt8), (s.length ≤ 1048576) → T [.str s, .str [b]] (.sl 1 ((ar s b.toNat).map D.str))
def F8 (T : RT) : Prop := ∀ (s : aq), (s.length ≤ 1048576) → T [.str s, .str [124, 124]] (.sl 1 ((aK s []).map D.str))
def A124 (T : RT) : Prop := F7 T ∧ F8 T
def A207 (T : RT) : Prop := ∀ (l : List aq), T [.sl 1 (l.map D.str)] (.bool (p8 l))
def A208 (T : RT) : Prop := ∀ (s : aq), T [.str s] (.bool (eW s))
def A209 (T : RT) : Prop := ∀ (v : dP), (v.sm) → T [dP.D v] (.bool (jo v))
def A210 (T : RT) : Prop := ∀ (r : Rec) (n : aJ), (n.sm) → T [Rec.D r, aJ.D n] (.int .i64 (jK r n))
def A211 (T : RT) : Prop := ∀ (r : Rec) (name : aq) (rng : aq), (rng.length ≤ 1048576) → T [Rec.D r, .str name, .str rng] (.int .i64 (kJ r name rng))
def A212 (T : RT) : Prop := ∀ (s : aq), T [.str s] (.bool (oR s))
def A213 (T : RT) : Prop := ∀ (l : List ba), (qU l) → T [.sl 2 (l.map ba.D)] (.bool (ik l))
def A214 (T : RT) : Prop := ∀ (r : Rec) (s : aq), (s.length ≤ 1048576) → T [Rec.D r, .str s] (.int .i64 (me r s))
def A215 (T : RT) : Prop := ∀ (r : Rec), (tG r ∧ kD r) → T [Rec.D r] (.str (o9 r))
def F9 (T : FT) : Prop := ∀ (r : Ld), (r.sm) → T (Ld.D r) [] (.tup [Rec.D (ek r.rest).1, .bool (pX r.rest).isSome]) (Ld.D (r.to (ek r.rest).2))
theorem G2 : rq (ke F9) := CT
def A225 (T : RT) : Prop := ∀ (a : aJ) (b : aJ), T [aJ.D a, aJ.D b] (.bool (decide (a = b)))
def A226 (T : RT) : Prop := ∀ (a : List aq) (b : List aq), T [.sl 1 (a.map D.str), .sl 1 (b.map D.str)] (.bool (decide (a = b)))
def A233 (T : RT) : Prop := ∀ (a : List aJ) (b : List aJ), T [.sl 3 (a.map aJ.D), .sl 3 (b.map aJ.D), .fn 234 []] (.bool (decide (a = b)))
def A234 (T : RT) : Prop := ∀ (a : aJ) (b : aJ), T [aJ.D a, aJ.D b] (.bool (decide (a = b)))
def A235 (T : RT) : Prop := ∀ (a : List ec) (b : List ec), T [.sl 3 (a.map ec.D), .sl 3 (b.map ec.D)] (.bool (decide (a = b)))
def A236 (T : RT) : Prop := ∀ (a : List ba) (b : List ba), T [.sl 2 (a.map ba.D), .sl 2 (b.map ba.D), .fn 237 []] (.bool (decide (a = b)))
def A237 (T : RT) : Prop := ∀ (a : ba) (b : ba), T [ba.D a, ba.D b] (.bool (decide (a = b)))
def A242 (T : RT) : Prop := ∀ (l : List aq) (sep : aq), (l.length ≤ 1048600) → (sep.length ≤ 4) → (∀ t ∈ l, t.length ≤ 2097200) → T [.sl 1 (l.map D.str), .str sep] (.str (bj sep l))
def A245 (T : RT) : Prop := ∀ (s : aq) (n : Int), (s.length ≤ 1048576) → (n = -1 ∨ (1 ≤ n ∧ n ≤ 1000)) → T [.str s, .str [32], .int .i64 n] (.sl 1 ((gw n s).map D.str))
def A246 (T : RT) : Prop := ∀ (l : List aq) (x : aq), T [.sl 1 (l.map D.str), .str x] (.bool (decide (x ∈ l)))
def A254 (T : RT) : Prop := ∀ (s : aq) (p : aq), (s.length ≤ 1048576) → (p.length ≤ 1048576) → T [.str s, .str p] (.tup [.str (cX s p).1, .bool (cX s p).2])
def A336 (T : RT) : Prop := ∀ (n : Int), (0 ≤ n ∧ n ≤ 9999) → T [.int .i64 n] (.str (gy n.toNat))
def A349 (T : RT) : Prop := ∀ (s : aq), T [.str s] (.bool (bZ s))
def A440 (T : RT) : Prop := ∀ (n : Int), T [.int .i64 n] (.bool (uO n))
def A441 (T : RT) : Prop := ∀ (s : aq), (s.length ≤ 1048576) → T [.str s] (.bool (jZ s true))
def A442 (T : RT) : Prop := ∀ (s : aq), (s.length ≤ 1048576) → T [.str s] (.bool (jZ s false))
def A443 (T : RT) : Prop := ∀ (r : Rec) (w : aR) (al : Bool), (w.sm) → T [Rec.D r, aR.D w, .bool al] (.int .i64 (lF r w al))
def A444 (T : RT) : Prop := ∀ (s : aq), (s.length ≤ 1048576) → T [.str s] (.bool (rh s))
def A445 (T : RT) : Prop := ∀ (s : aq), T [.str s] (.tup [iL (lf s).1, .int .i64 (lf s).2])
def A446 (T : RT) : Prop := ∀ (m : D6), T [iL m] (.str (F4 m))
def A447 (T : RT) : Prop := ∀ (l : List aq), T [.sl 1 (l.map D.str)] (.bool (rising l))
def A448 (T : RT) : Prop := ∀ (s : aq), (s.length ≤ 1048576) → T [.str s] (.tup [.int .i64 (cB s).1, .str (cB s).2.1, .str (cB s).2.2])
def A449 (T : RT) : Prop := ∀ (l : List ba) (nm : aq), T [.sl 2 (l.map ba.D), .str nm] (.bool (isF l nm))
def A451 (T : RT) : Prop := ∀ (v : dP), (v.sm) → T [dP.D v] (.str (oc v))
def Ga (T : FT) : Prop := ∀ (r : Ld) (w : aq) (n : Nat) (op : Bool), (r.sm) → (n ≤ 1000) → (op = true → 1 ≤ n) → T (Ld.D r) [.str w, .int .i64 (n : Nat), .bool op] (.tup [tf (bC w n op r.rest), .bool (bC w n op r.rest).isSome]) (Ld.D (r.after (bC w n op r.rest)))
theorem G3 : rq (ke Ga) := CT
def A466 (T : RT) : Prop := ∀ (s : aq), (s.length ≤ 1048576) → T [.str s] (.tup [dP.D ((lL s).getD iy), .int .i64 (sP s)])
def Gb (T : FT) : Prop := ∀ (r : Ld), (r.sm) → T (Ld.D r) [] (aJ.D (c7 r.rest).1) (Ld.D (r.to (c7 r.rest).2))
theorem G4 : rq (ke Gb) := CT
def Gc (T : FT) : Prop := ∀ (r : Ld), (r.sm) → T (Ld.D r) [] (.str (bw r.rest).1) (Ld.D (r.to (bw r.rest).2))
theorem G5 : rq (ke Gc) := CT
def A469 (T : RT) : Prop := ∀ (l : List aq), (l.length ≤ 1048600) → T [.sl 1 (l.map D.str)] (.sl 1 (l.map D.str))
def A477 (T : RT) : Prop := ∀ (a : aR) (b : aR), T [aR.D a, aR.D b] (.bool (decide (a = b)))
def A484 (T : RT) : Prop := ∀ (a : List aR) (b : List aR), T [.sl 4 (a.map aR.D), .sl 4 (b.map aR.D), .fn 485 []] (.bool (decide (a = b)))
def A485 (T : RT) : Prop := ∀ (a : aR) (b : aR), T [aR.D a, aR.D b] (.bool (decide (a = b)))
def A486 (T : RT) : Prop := ∀ (a : List aq) (b : List aq), T [.sl 1 (a.map D.str), .sl 1 (b.map D.str)] (.bool (decide (a = b)))
def A487 (T : RT) : Prop := ∀ (s : aq) (b : UInt8), (s.length ≤ 1048576) → T [.str s, .str [b]] (.tup [.str (dN s b).1, .str (dN s b).2.1, .bool (dN s b).2.2])
def A494 (T : RT) : Prop := ∀ (l : List aq) (x : aq), T [.sl 1 (l.map D.str), .str x] (.int .i64 (oK l x 0))
def A495 (T : RT) : Prop := ∀ (s : aq), (s.length ≤ 1048576) → T [.str s] (.tup [fM (iw s).1, .int .i64 (iw s).2])
def A496 (T : RT) : Prop := ∀ (r : uC), (mq r) → T [fM r] (.str (ua r))
def A533 (T : RT) : Prop := ∀ (s : aq) (b : Int), (s.length ≤ 1048576) → T [.str s, .int .u8 b] (.sl 1 ((ar s b).map D.str))
def A658 (T : RT) : Prop := ∀ (s : aq), T [.str s] (.tup [.int .i64 (dx s), .bool (gA s)])
def A659 (T : RT) : Prop := ∀ (t : aq), T [.str t] (.bool (hY t))
def A661 (T : RT) : Prop := ∀ (m : D6), T [iL m] (.bool (td m))
def A662 (T : RT) : Prop := ∀ (l : List Nd), (fo l ∧ l.length ≤ 15) → T [.sl 5 (l.map Nd.D)] (.str (od l))
def A663 (T : RT) : Prop := ∀ (l : List ba) (nm : aq), T [.sl 2 (l.map ba.D), .str nm] (.int .i64 (findF l nm 0))
def A665 (T : RT) : Prop := ∀ (n : Int), (0 ≤ n ∧ n ≤ 9999) → T [.int .i64 n] (.str (gy n.toNat))
def A675 (T : RT) : Prop := ∀ (s : aq) (b : Int), T [.str s, .int .u8 b] (.tup [.str (dE s b).1, .str (dE s b).2])
def A682 (T : RT) : Prop := ∀ (s : aq), (s.length ≤ 1048575) → T [.str s] (.tup [cL.D ((gD s).getD dk), .int .i64 (if (gD s).isSome = true then 0 else 6)])
def A683 (T : RT) : Prop := ∀ (s : aq) (b : UInt8), (b = 32) → (s.length ≤ 1048576) → T [.str s, .str [b]] (.str (dZ s))
def A684 (T : RT) : Prop := ∀ (r : uC), (mq r) → T [fM r] (.tup [.str (if j9 r = true then Ab r else []), .bool (j9 r)])
def A685 (T : RT) : Prop := ∀ (r : uC), (mq r) → T [fM r] (.bool (pN r))
def A810 (T : RT) : Prop := ∀ (l : List Nd), T [.sl 5 (l.map Nd.D)] (.bool (decide (l.length ≤ 15) && mz l))
def A811 (T : RT) : Prop := ∀ (l : List Nd) (i : Int), (fo l ∧ l.length ≤ 15 ∧ 0 ≤ i ∧ i < l.length) → T [.sl 5 (l.map Nd.D), .int .i64 i] (.str (kj l i))
def u811 : List D → Nat := fun ds => 2 * (match ds.getD 1 .any with | .int _ i => i.toNat | _ => 0)
def A819 (T : RT) : Prop := ∀ (s : aq), (s.length ≤ 1048576) → T [.str s] (.tup [cL.D ((dA s).getD dk), .bool (dA s).isSome])
def A827 (T : RT) : Prop := ∀ (c : cL), (c.v.sm) → T [cL.D c] (.bool (jt c))
def A828 (T : RT) : Prop := ∀ (c : cL), (c.v.sm) → T [cL.D c] (.str (du c))
def A946 (T : RT) : Prop := ∀ (w : List aq) (es : List D) (b : Bool), T [.ref 3 [dS w (.sl 5 es) b] 0 0] (.str (bV w))
def A950 (T : RT) : Prop := T [] (.sl 1 (lD.map D.str))
def A951 (T : RT) : Prop := ∀ (l : List Nd) (i : Int) (b : Bool), (fo l ∧ l.length ≤ 15 ∧ 0 ≤ i ∧ i < l.length) → T [.sl 5 (l.map Nd.D), .int .i64 i, .bool b] (.str (js (kj l i) b))
def u951 : List D → Nat := fun ds => 2 * (match ds.getD 1 .any with | .int _ i => i.toNat | _ => 0) + 1
def A956 (T : RT) : Prop := ∀ (s : aq) (w : aq), T [.str s, .str w] (.bool (py s w))
def A957 (T : RT) : Prop := ∀ (op : Int), T [.int .i64 op] (.str (cP op))
def DY (T : RT) : Prop := ∀ (a : Rec) (b : Rec), T [Rec.D a, Rec.D b] (.bool true)
theorem G1 : G6 (uV DY) := b7
def bx : List (Nat × nG) := [(68, rP 2 A68), (69, rP 16 A69), (70, rP 14 A70), (72, rP 15 A72), (76, rP 15 A76), (78, rP 4 A78), (80, rP 6 A80), (124, rP 1 A124), (207, rP 1 A207), (208, rP 1 A208), (209, rP 4 A209), (210, rP 13 A210), (211, rP 11 A211), (212, rP 6 A212), (213, rP 3 A213), (214, rP 3 A214), (215, rP 6 A215), (222, rF 7 F9), (225, rP 3 A225), (226, rP 1 A226), (233, rP 5 A233), (234, rP 4 A234), (235, rP 1 A235), (236, rP 3 A236), (237, rP 2 A237), (242, rP 1 A242), (245, rP 1 A245), (246, rP 2 A246), (254, rP 1 A254), (336, rP 1 A336), (349, rP 1 A349), (440, rP 1 A440), (441, rP 3 A441), (442, rP 2 A442), (443, rP 12 A443), (444, rP 10 A444), (445, rP 5 A445), (446, rP 5 A446), (447, rP 1 A447), (448, rP 2 A448), (449, rP 2 A449), (450, rG 2 EC), (451, rP 5 A451), (452, rG 1 EE), (465, rFG 3 Ga yo), (466, rP 6 A466), (467, rF 5 Gb), (468, rF 4 Gc), (469, rP 1 A469), (477, rP 2 A477), (484, rP 3 A484), (485, rP 2 A485), (486, rP 1 A486), (487, rP 1 A487), (489, rG 1 EH), (494, rP 1 A494), (495, rP 9 A495), (496, rP 8 A496), (533, rP 1 A533), (658, rP 1 A658), (659, rP 1 A659), (660, rG 4 EI (Bg fun _ => 4)), (661, rP 4 A661), (662, rP 3 A662), (663, rP 1 A663), (664, rG 1 EL), (665, rP 2 A665), (675, rP 1 A675), (682, rP 8 A682), (683, rP 1 A683), (684, rP 7 A684), (685, rP 8 A685), (808, rG 4 C808 (Bg E8)), (809, rG 4 C809 (Bg fun _ => 2)), (810, rP 2 A810), (811, rP 2 A811 u811), (819, rP 7 A819), (827, rP 5 A827), (828, rP 6 A828), (946, rP 1 A946), (947, rG 2 zi), (948, rG 1 AA), (949, rG 4 C949 (Bg fun _ => 0)), (950, rP 1 A950), (951, rP 2 A951 u951), (956, rP 1 A956), (957, rP 1 A957), (1031, rG 3 Au), (1195, rP 17 DY)]
variable {k u v : Nat}
theorem G68 (hk : 2 < k) : C68 (under bx k u) := fun r => ed b7 (.inl hk) fun T h => h r
theorem G69 (hk : 16 < k) : C69 (under bx k u) := ed b7 (.inl hk) fun T h => h
theorem G70 (hk : 14 < k) : C70 (under bx k u) := fun r hp0 => ed b7 (.inl hk) fun T h => h r hp0
theorem G72 (hk : 15 < k) : C72 (under bx k u) := fun r hp0 => ed b7 (.inl hk) fun T h => h r hp0
theorem G76 (hk : 15 < k) : C76 (under bx k u) := fun s => ed b7 (.inl hk) fun T h => h s
theorem G78 (hk : 4 < k) : C78 (under bx k u) := fun a b => ed b7 (.inl hk) fun T h => h a b
theorem G80 (hk : 6 < k) : C80 (under bx k u) := fun a b => ed b7 (.inl hk) fun T h => h a b
theorem Cy (hk : 1 < k) : Av (under bx k u) := fun s b hp => ed b7 (.inl hk) fun T h => h.1 s b hp
theorem Hq (hk : 1 < k) : D0 (under bx k u) := fun s hp => ed b7 (.inl hk) fun T h => h.2 s hp
theorem G207 (hk : 1 < k) : Gd (under bx k u) := fun l => ed b7 (.inl hk) fun T h => h l
theorem ES (hk : 1 < k) : Cr (under bx k u) := fun s => ed b7 (.inl hk) fun T h => h s
theorem Cz (hk : 4 < k) : Aw (under bx k u) := fun v hp0 => ed b7 (.inl hk) fun T h => h v hp0
theorem G210 (hk : 13 < k) : Ge (under bx k u) := fun r n hp0 => ed b7 (.inl hk) fun T h => h r n hp0
theorem G8 (hk : 11 < k) : Ev (under bx k u) := fun r name rng hp0 => ed b7 (.inl hk) fun T h => h r name rng hp0
theorem G9 (hk : 6 < k) : Ew (under bx k u) := fun s => ed b7 (.inl hk) fun T h => h s
theorem G213 (hk : 3 < k) : Gf (under bx k u) := fun l hp0 => ed b7 (.inl hk) fun T h => h l hp0
theorem G214 (hk : 3 < k) : Gg (under bx k u) := fun r s hp0 => ed b7 (.inl hk) fun T h => h r s hp0
theorem Ha (hk : 6 < k) : Ey (under bx k u) := fun r hp0 => ed b7 (.inl hk) fun T h => h r hp0
theorem G222 (hk : 7 < k) : Gi (under bx k u) := fun r hp0 => okf G2 hk fun T h => h r hp0
theorem G225 (hk : 3 < k) : Gj (under bx k u) := fun a b => ed b7 (.inl hk) fun T h => h a b
theorem Hb (hk : 1 < k) : Ez (under bx k u) := fun a b => ed b7 (.inl hk) fun T h => h a b
theorem G233 (hk : 5 < k) : Gk (under bx k u) := fun a b => ed b7 (.inl hk) fun T h => h a b
theorem G234 (hk : 4 < k) : Gl (under bx k u) := fun a b => ed b7 (.inl hk) fun T h => h a b
theorem G235 (hk : 1 < k) : Gm (under bx k u) := fun a b => ed b7 (.inl hk) fun T h => h a b
theorem G236 (hk : 3 < k) : Gn (under bx k u) := fun a b => ed b7 (.inl hk) fun T h => h a b
theorem G237 (hk : 2 < k) : Gp (under bx k u) := fun a b => ed b7 (.inl hk) fun T h => h a b
theorem ET (hk : 1 < k) : Cs (under bx k u) := fun l sep hp0 hp1 hp2 => ed b7 (.inl hk) fun T h => h l sep hp0 hp1 hp2
theorem Hc (hk : 1 < k) : Gq (under bx k u) := fun s n hp0 hp1 => ed b7 (.inl hk) fun T h => h s n hp0 hp1
theorem Hd (hk : 2 < k) : Gr (under bx k u) := fun l x => ed b7 (.inl hk) fun T h => h l x
theorem G254 (hk : 1 < k) : Gt (under bx k u) := fun s p hp0 hp1 => ed b7 (.inl hk) fun T h => h s p hp0 hp1
theorem G336 (hk : 1 < k) : Gu (under bx k u) := fun n hp0 => ed b7 (.inl hk) fun T h => h n hp0
theorem zk (hk : 1 < k) : xh (under bx k u) := fun s => ed b7 (.inl hk) fun T h => h s
theorem G440 (hk : 1 < k) : Gv (under bx k u) := fun n => ed b7 (.inl hk) fun T h => h n
theorem G441 (hk : 3 < k) : Gw (under bx k u) := fun s hp0 => ed b7 (.inl hk) fun T h => h s hp0
theorem He (hk : 2 < k) : EA (under bx k u) := fun s hp0 => ed b7 (.inl hk) fun T h => h s hp0
theorem G443 (hk : 12 < k) : Gx (under bx k u) := fun r w al hp0 => ed b7 (.inl hk) fun T h => h r w al hp0
theorem G444 (hk : 10 < k) : Gy (under bx k u) := fun s hp0 => ed b7 (.inl hk) fun T h => h s hp0
theorem G445 (hk : 5 < k) : Gz (under bx k u) := fun s => ed b7 (.inl hk) fun T h => h s
theorem G446 (hk : 5 < k) : GA (under bx k u) := fun m => ed b7 (.inl hk) fun T h => h m
theorem G447 (hk : 1 < k) : GB (under bx k u) := fun l => ed b7 (.inl hk) fun T h => h l
theorem Hf (hk : 2 < k) : EB (under bx k u) := fun s hp0 => ed b7 (.inl hk) fun T h => h s hp0
theorem G449 (hk : 2 < k) : GC (under bx k u) := fun l nm => ed b7 (.inl hk) fun T h => h l nm
theorem G450 (hk : 2 < k) : EC (under bx k u) := fun ws t l lw nx m K h1 h2 h3 h4 h5 hK => yS (.inl hk) fun T _ h => h ws t l lw nx m K h1 h2 h3 h4 h5 hK
theorem Hg (hk : 5 < k) : ED (under bx k u) := fun v hp0 => ed b7 (.inl hk) fun T h => h v hp0
theorem G452 (hk : 1 < k) : EE (under bx k u) := fun ds st K h1 => yS (.inl hk) fun T _ h => h ds st K h1
theorem Hh (hk : 3 < k) : Ct (under bx k u) := fun r w n op hp0 hp1 hp2 => okf G3 hk fun T h => h r w n op hp0 hp1 hp2
theorem Hr (hk : 3 < k) : yo (under bx k u) := fun r w n op l nx m K h1 h2 h3 h4 hK => yS (.inl hk) fun T _ h => h r w n op l nx m K h1 h2 h3 h4 hK
theorem G466 (hk : 6 < k) : GD (under bx k u) := fun s hp0 => ed b7 (.inl hk) fun T h => h s hp0
theorem G467 (hk : 5 < k) : EF (under bx k u) := fun r hp0 => okf G4 hk fun T h => h r hp0
theorem Hi (hk : 4 < k) : Cu (under bx k u) := fun r hp0 => okf G5 hk fun T h => h r hp0
theorem G469 (hk : 1 < k) : GG (under bx k u) := fun l hp0 => ed b7 (.inl hk) fun T h => h l hp0
theorem G477 (hk : 2 < k) : GH (under bx k u) := fun a b => ed b7 (.inl hk) fun T h => h a b
theorem G484 (hk : 3 < k) : GJ (under bx k u) := fun a b => ed b7 (.inl hk) fun T h => h a b
theorem G485 (hk : 2 < k) : GK (under bx k u) := fun a b => ed b7 (.inl hk) fun T h => h a b
theorem Hj (hk : 1 < k) : EG (under bx k u) := fun a b => ed b7 (.inl hk) fun T h => h a b
theorem G487 (hk : 1 < k) : GL (under bx k u) := fun s b hp0 => ed b7 (.inl hk) fun T h => h s b hp0
theorem G489 (hk : 1 < k) : EH (under bx k u) := fun ds st K h1 => yS (.inl hk) fun T _ h => h ds st K h1
theorem G494 (hk : 1 < k) : GM (under bx k u) := fun l x => ed b7 (.inl hk) fun T h => h l x
theorem G495 (hk : 9 < k) : GN (under bx k u) := fun s hp0 => ed b7 (.inl hk) fun T h => h s hp0
theorem G496 (hk : 8 < k) : GO (under bx k u) := fun r hp0 => ed b7 (.inl hk) fun T h => h r hp0
theorem CA (hk : 1 < k) : Ax (under bx k u) := fun s b hp0 => ed b7 (.inl hk) fun T h => h s b hp0
theorem EU (hk : 1 < k) : Cv (under bx k u) := fun s => ed b7 (.inl hk) fun T h => h s
theorem G659 (hk : 1 < k) : GP (under bx k u) := fun t => ed b7 (.inl hk) fun T h => h t
theorem G660 (hk : 4 < k) : EI (under bx k u) := fun w nd hp0 nx lp ln m K h1 h2 h3 h4 hK => yS (.inl hk) fun T _ h => h w nd hp0 nx lp ln m K h1 h2 h3 h4 hK
theorem Hk (hv : v ≤ u) : DZ (under bx 4 u) v := fun w nd hp0 hu nx lp ln m K h1 h2 h3 h4 hK => yS (.inr ⟨rfl, by rw [show (lk bx 660 ji).muE = Bg fun _ => 4 from rfl, jf h1]; exact Nat.lt_of_lt_of_le hu hv⟩) fun T _ h => h w nd hp0 nx lp ln m K h1 h2 h3 h4 hK
theorem Hl (hk : 4 < k) : EJ (under bx k u) := fun m => ed b7 (.inl hk) fun T h => h m
theorem Hm (hk : 3 < k) : EK (under bx k u) := fun l hp0 => ed b7 (.inl hk) fun T h => h l hp0
theorem G663 (hk : 1 < k) : GQ (under bx k u) := fun l nm => ed b7 (.inl hk) fun T h => h l nm
theorem G664 (hk : 1 < k) : EL (under bx k u) := fun ds st K h1 => yS (.inl hk) fun T _ h => h ds st K h1
theorem Hn (hk : 2 < k) : EM (under bx k u) := fun n hp0 => ed b7 (.inl hk) fun T h => h n hp0
theorem G675 (hk : 1 < k) : GR (under bx k u) := fun s b => ed b7 (.inl hk) fun T h => h s b
theorem G682 (hk : 8 < k) : GS (under bx k u) := fun s hp0 => ed b7 (.inl hk) fun T h => h s hp0
theorem G683 (hk : 1 < k) : GU (under bx k u) := fun s b hp0 hp1 => ed b7 (.inl hk) fun T h => h s b hp0 hp1
theorem EV (hk : 7 < k) : Cw (under bx k u) := fun r hp0 => ed b7 (.inl hk) fun T h => h r hp0
theorem G685 (hk : 8 < k) : GV (under bx k u) := fun r hp0 => ed b7 (.inl hk) fun T h => h r hp0
theorem D3 (hv : v ≤ u) : Ay (under bx 4 u) v := ⟨fun w nd hp0 hu nx lp ln m K h1 h2 h3 h4 hK => yS (.inr ⟨rfl, by rw [show (lk bx 808 ji).muE = Bg E8 from rfl, jf h1]; exact Nat.lt_of_lt_of_le hu hv⟩) fun T _ h => h.1 w nd hp0 nx lp ln m K h1 h2 h3 h4 hK, fun w nd hp0 hu nx lp ln m K h1 h2 h3 h4 hK => yS (.inr ⟨rfl, by rw [show (lk bx 808 ji).muE = Bg E8 from rfl, jf h1]; exact Nat.lt_of_lt_of_le hu hv⟩) fun T _ h => h.2 w nd hp0 nx lp ln m K h1 h2 h3 h4 hK⟩
theorem Ho (hv : v ≤ u) : GW (under bx 4 u) v := fun w nd hp0 hu nx lp ln m K h1 h2 h3 h4 hK => yS (.inr ⟨rfl, by rw [show (lk bx 809 ji).muE = Bg fun _ => 2 from rfl, jf h1]; exact Nat.lt_of_lt_of_le hu hv⟩) fun T _ h => h w nd hp0 nx lp ln m K h1 h2 h3 h4 hK
theorem G810 (hk : 2 < k) : GX (under bx k u) := fun l => ed b7 (.inl hk) fun T h => h l
theorem G811 (hk : 2 < k) : GY (under bx k u) := fun l i hp0 => ed b7 (.inl hk) fun T h => h l i hp0
theorem D4 (hv : v ≤ u) : Az (under bx 2 u) v := fun l i hp0 hu => ed b7 (.inr ⟨rfl, Nat.lt_of_lt_of_le hu hv⟩) fun T h => h l i hp0
theorem G819 (hk : 7 < k) : GZ (under bx k u) := fun s hp0 => ed b7 (.inl hk) fun T h => h s hp0
theorem EW (hk : 5 < k) : Cx (under bx k u) := fun c hp0 => ed b7 (.inl hk) fun T h => h c hp0
theorem Hp (hk : 6 < k) : EN (under bx k u) := fun c hp0 => ed b7 (.inl hk) fun T h => h c hp0
theorem EX (hk : 1 < k) : EO (under bx k u) := fun w es b => ed b7 (.inl hk) fun T h => h w es b
theorem CB (hk : 2 < k) : zi (under bx k u) := fun w nd b nx lp ln m K h1 h2 h3 h4 hK => yS (.inl hk) fun T _ h => h w nd b nx lp ln m K h1 h2 h3 h4 hK
theorem CD (hk : 1 < k) : AA (under bx k u) := fun x w nd b hp0 nx lp ln m K h1 h2 h3 h4 hK => yS (.inl hk) fun T _ h => h x w nd b hp0 nx lp ln m K h1 h2 h3 h4 hK
theorem D5 (hv : v ≤ u) : D1 (under bx 4 u) v := fun w nd hp0 hu nx lp ln m K h1 h2 h3 h4 hK => yS (.inr ⟨rfl, by rw [show (lk bx 949 ji).muE = Bg fun _ => 0 from rfl, jf h1]; exact Nat.lt_of_lt_of_le hu hv⟩) fun T _ h => h w nd hp0 nx lp ln m K h1 h2 h3 h4 hK
theorem Hs (hk : 1 < k) : EP (under bx k u) := ed b7 (.inl hk) fun T h => h
theorem Ht (hv : v ≤ u) : D2 (under bx 2 u) v := fun l i b hp0 hu => ed b7 (.inr ⟨rfl, Nat.lt_of_lt_of_le hu hv⟩) fun T h => h l i b hp0
theorem G956 (hk : 1 < k) : G0 (under bx k u) := fun s w => ed b7 (.inl hk) fun T h => h s w
theorem Hu (hk : 1 < k) : ER (under bx k u) := fun op => ed b7 (.inl hk) fun T h => h op
theorem G7 (hk : 3 < k) : Au (under bx k u) := fun k w nd b hp0 nx lp ln m K h1 h2 h3 h4 hK => yS (.inl hk) fun T _ h => h k w nd b hp0 nx lp ln m K h1 h2 h3 h4 hK
end Go.Abs
end
namespace Go.Abs
def qH : List (Nat × Nat) := [(10, 1195), (12, 69), (13, 76), (15, 78), (20, 70), (21, 72), (22, 68), (27, 80), (28, 124), (29, 222), (32, 225), (33, 226), (41, 208), (42, 209), (43, 210), (44, 211), (45, 212), (46, 213), (47, 214), (48, 215), (49, 207), (55, 233), (56, 234), (57, 235), (58, 236), (59, 237), (61, 465), (62, 466), (63, 467), (64, 468), (65, 469), (73, 477), (82, 440), (83, 441), (84, 442), (85, 443), (86, 349), (87, 444), (88, 445), (89, 446), (90, 447), (91, 448), (92, 449), (93, 450), (94, 451), (95, 242), (96, 452), (106, 484), (107, 485), (108, 486), (112, 245), (113, 246), (114, 675), (115, 533), (116, 658), (122, 659), (123, 495), (124, 496), (125, 660), (126, 661), (127, 662), (128, 254), (129, 487), (130, 663), (131, 489), (132, 664), (133, 665), (150, 494), (154, 682), (155, 683), (156, 684), (157, 685), (158, 808), (159, 809), (160, 810), (161, 811), (165, 336), (180, 819), (188, 827), (189, 828), (190, 946), (191, 947), (192, 948), (193, 949), (194, 950), (195, 951), (212, 956), (213, 957), (217, 1031)]
def AQ : List Nat := [219, 1091, 1354, 1894, 1896, 1616, 1320, 1618, 1898, 2062, 2066, 2282, 2068, 2252, 2194, 2064, 1904, 900, 931, 937, 935, 445, 978, 1328, 904, 942, 944, 946, 952, 448, 1000000133]
theorem bX : (Go.Proofs.Tryz.prog).follows .mixedOrders = true := by kernel_rfl
abbrev Ow [cd] (f n : Nat) : Prop := FX Go.Proofs.Tryz.prog qH AQ bx f n
abbrev Cp (f : Nat) (a : aI) : Prop := Cj Go.Proofs.Tryz.prog qH AQ f a
theorem ck {f : Nat} {a : aI} (h : ((Go.Proofs.Tryz.prog).funcs[f]?).map (fun f => (compile Go.Proofs.Tryz.prog qH AQ f, f.name == "runtime.NumGoroutine")) = some (some a, false) := by kernel_rfl) : Cp f a := h
end Go.Abs
section
namespace Go.Proofs
open Go.Shelf
def Tryz.CN : Go.Shelf.Ren := ⟨fun | 166 => 131 | 167 => 132 | 169 => 96 | 240 => 164 | 276 => 197 | n => n, fun | 70 => 131 | 9 => 9 | 0 => 0 | 72 => 133 | 37 => 53 | 3 => 3 | 5 => 5 | 4 => 4 | 20 => 20 | 75 => 172 | 80 => 99 | 164 => 215 | 127 => 177 | n => n, fun | n => n⟩
theorem Tryz.yv : Go.Proofs.Lays.n166 Tryz.prog Tryz.CN := {
 mixed := by kernel_rfl
 f166 := Tryz.func131.trans (congrArg some (by kernel_rfl))
 f240 := Tryz.func164.trans (congrArg some (by kernel_rfl))
 f276 := Tryz.func197.trans (congrArg some (by kernel_rfl))
 t0 := Tryz.underlying0
 a0 := Tryz.isAgg0
 z0 := Tryz.sizeOf0
 v0 := Tryz.zeroValue0
 t3 := Tryz.underlying3
 a3 := Tryz.isAgg3
 z3 := Tryz.sizeOf3
 v3 := Tryz.zeroValue3
 t4 := Tryz.underlying4
 a4 := Tryz.isAgg4
 z4 := Tryz.sizeOf4
 v4 := Tryz.zeroValue4
 t9 := Tryz.underlying9
 a9 := Tryz.isAgg9
 z9 := Tryz.sizeOf9
 v9 := Tryz.zeroValue9
 t20 := Tryz.underlying20
 a20 := Tryz.isAgg20
 z20 := Tryz.sizeOf20
 v20 := Tryz.zeroValue20
 t37 := Tryz.underlying53
 a37 := Tryz.isAgg53
 z37 := Tryz.sizeOf53
 v37 := Tryz.zeroValue53
 t70 := Tryz.underlying131
 a70 := Tryz.isAgg131
 z70 := Tryz.sizeOf131
 v70 := Tryz.zeroValue131
 t72 := Tryz.underlying133
 a72 := Tryz.isAgg133
 z72 := Tryz.sizeOf133
 v72 := Tryz.zeroValue133
 t75 := Tryz.underlying172
 a75 := Tryz.isAgg172
 z75 := Tryz.sizeOf172
 v75 := Tryz.zeroValue172
 t164 := Tryz.underlying215
 a164 := Tryz.isAgg215
 z164 := Tryz.sizeOf215
 v164 := Tryz.zeroValue215 }
theorem Tryz.yw : Go.Proofs.Lays.n167 Tryz.prog Tryz.CN := {
 mixed := by kernel_rfl
 f167 := Tryz.func132.trans (congrArg some (by kernel_rfl))
 f240 := Tryz.func164.trans (congrArg some (by kernel_rfl))
 f276 := Tryz.func197.trans (congrArg some (by kernel_rfl))
 t0 := Tryz.underlying0
 a0 := Tryz.isAgg0
 z0 := Tryz.sizeOf0
 v0 := Tryz.zeroValue0
 t4 := Tryz.underlying4
 a4 := Tryz.isAgg4
 z4 := Tryz.sizeOf4
 v4 := Tryz.zeroValue4
 t5 := Tryz.underlying5
 a5 := Tryz.isAgg5
 z5 := Tryz.sizeOf5
 v5 := Tryz.zeroValue5
 t9 := Tryz.underlying9
 a9 := Tryz.isAgg9
 z9 := Tryz.sizeOf9
 v9 := Tryz.zeroValue9
 t20 := Tryz.underlying20
 a20 := Tryz.isAgg20
 z20 := Tryz.sizeOf20
 v20 := Tryz.zeroValue20
 t37 := Tryz.underlying53
 a37 := Tryz.isAgg53
 z37 := Tryz.sizeOf53
 v37 := Tryz.zeroValue53
 t70 := Tryz.underlying131
 a70 := Tryz.isAgg131
 z70 := Tryz.sizeOf131
 v70 := Tryz.zeroValue131
 t72 := Tryz.underlying133
 a72 := Tryz.isAgg133
 z72 := Tryz.sizeOf133
 v72 := Tryz.zeroValue133
 t75 := Tryz.underlying172
 a75 := Tryz.isAgg172
 z75 := Tryz.sizeOf172
 v75 := Tryz.zeroValue172
 t164 := Tryz.underlying215
 a164 := Tryz.isAgg215
 z164 := Tryz.sizeOf215
 v164 := Tryz.zeroValue215 }
theorem Tryz.yx : Go.Proofs.Lays.n169 Tryz.prog Tryz.CN := {
 mixed := by kernel_rfl
 f169 := Tryz.func96.trans (congrArg some (by kernel_rfl))
 t0 := Tryz.underlying0
 a0 := Tryz.isAgg0
 z0 := Tryz.sizeOf0
 v0 := Tryz.zeroValue0
 t3 := Tryz.underlying3
 a3 := Tryz.isAgg3
 z3 := Tryz.sizeOf3
 v3 := Tryz.zeroValue3
 t9 := Tryz.underlying9
 a9 := Tryz.isAgg9
 z9 := Tryz.sizeOf9
 v9 := Tryz.zeroValue9
 t37 := Tryz.underlying53
 a37 := Tryz.isAgg53
 z37 := Tryz.sizeOf53
 v37 := Tryz.zeroValue53
 t70 := Tryz.underlying131
 a70 := Tryz.isAgg131
 z70 := Tryz.sizeOf131
 v70 := Tryz.zeroValue131
 t72 := Tryz.underlying133
 a72 := Tryz.isAgg133
 z72 := Tryz.sizeOf133
 v72 := Tryz.zeroValue133
 t127 := Tryz.underlying177
 a127 := Tryz.isAgg177
 z127 := Tryz.sizeOf177
 v127 := Tryz.zeroValue177 }
theorem Tryz.E7 : Builder.Extra Tryz.prog Tryz.CN := {
 sizeBuilder := by kernel_rfl
 liesBuilder := by kernel_rfl
 t5 := Tryz.underlying5
 a5 := Tryz.isAgg5
 z5 := Tryz.sizeOf5
 v5 := Tryz.zeroValue5
 infoByte := by kernel_rfl
 cellsByte := by kernel_rfl
 sizeByte := by kernel_rfl
 neB5 := by decide }
end Go.Proofs
end
section
namespace Go.Proofs
open Go.Shelf
def Tryz.lays156_ren : Go.Shelf.Ren := ⟨fun | 156 => 95 | 165 => 134 | 166 => 131 | 169 => 96 | 240 => 164 | 241 => 166 | 276 => 197 | 277 => 199 | n => n, fun | 31 => 55 | 9 => 9 | 3 => 3 | 4 => 4 | 0 => 0 | 20 => 20 | 72 => 133 | 76 => 173 | 70 => 131 | 37 => 53 | 75 => 172 | 127 => 177 | 164 => 215 | 5 => 5 | 80 => 99 | n => n, fun | n => n⟩
theorem Tryz.lays156 : Go.Proofs.Lays.n156 Tryz.prog Tryz.lays156_ren := {
 mixed := by kernel_rfl
 f156 := Tryz.func95.trans (congrArg some (by kernel_rfl))
 f165 := Tryz.func134.trans (congrArg some (by kernel_rfl))
 f166 := Tryz.func131.trans (congrArg some (by kernel_rfl))
 f169 := Tryz.func96.trans (congrArg some (by kernel_rfl))
 f240 := Tryz.func164.trans (congrArg some (by kernel_rfl))
 f241 := Tryz.func166.trans (congrArg some (by kernel_rfl))
 f276 := Tryz.func197.trans (congrArg some (by kernel_rfl))
 f277 := Tryz.func199.trans (congrArg some (by kernel_rfl))
 t0 := Tryz.underlying0
 a0 := Tryz.isAgg0
 z0 := Tryz.sizeOf0
 v0 := Tryz.zeroValue0
 t3 := Tryz.underlying3
 a3 := Tryz.isAgg3
 z3 := Tryz.sizeOf3
 v3 := Tryz.zeroValue3
 t4 := Tryz.underlying4
 a4 := Tryz.isAgg4
 z4 := Tryz.sizeOf4
 v4 := Tryz.zeroValue4
 t9 := Tryz.underlying9
 a9 := Tryz.isAgg9
 z9 := Tryz.sizeOf9
 v9 := Tryz.zeroValue9
 t20 := Tryz.underlying20
 a20 := Tryz.isAgg20
 z20 := Tryz.sizeOf20
 v20 := Tryz.zeroValue20
 t31 := Tryz.underlying55
 a31 := Tryz.isAgg55
 z31 := Tryz.sizeOf55
 v31 := Tryz.zeroValue55
 t37 := Tryz.underlying53
 a37 := Tryz.isAgg53
 z37 := Tryz.sizeOf53
 v37 := Tryz.zeroValue53
 t70 := Tryz.underlying131
 a70 := Tryz.isAgg131
 z70 := Tryz.sizeOf131
 v70 := Tryz.zeroValue131
 t72 := Tryz.underlying133
 a72 := Tryz.isAgg133
 z72 := Tryz.sizeOf133
 v72 := Tryz.zeroValue133
 t75 := Tryz.underlying172
 a75 := Tryz.isAgg172
 z75 := Tryz.sizeOf172
 v75 := Tryz.zeroValue172
 t76 := Tryz.underlying173
 a76 := Tryz.isAgg173
 z76 := Tryz.sizeOf173
 v76 := Tryz.zeroValue173
 t127 := Tryz.underlying177
 a127 := Tryz.isAgg177
 z127 := Tryz.sizeOf177
 v127 := Tryz.zeroValue177
 t164 := Tryz.underlying215
 a164 := Tryz.isAgg215
 z164 := Tryz.sizeOf215
 v164 := Tryz.zeroValue215 }
theorem Tryz.Builder_Extra_156 : Builder.Extra Tryz.prog Tryz.lays156_ren := {
 sizeBuilder := by kernel_rfl
 liesBuilder := by kernel_rfl
 t5 := Tryz.underlying5
 a5 := Tryz.isAgg5
 z5 := Tryz.sizeOf5
 v5 := Tryz.zeroValue5
 infoByte := by kernel_rfl
 cellsByte := by kernel_rfl
 sizeByte := by kernel_rfl
 neB5 := by decide }
open Go.RowKit in
theorem Tryz.strings_Join_none (a : Option Addr) (c : Nat) (sep : ByteArray) (w : World) :
  Calls Tryz.prog 95 #[.slice a 0 c, .string sep] w fun e w' => e = .returned (.string ⟨#[]⟩) ∧ w' = w := Any.strings_Join_none Tryz.lays156 Tryz.Builder_Extra_156 a c sep w
open Go.RowKit in
theorem Tryz.strings_Join (bk o c : Nat) (xs : List ByteArray) (sep : ByteArray) (w : World) (hcells : ∀ (j : Nat) x, xs[j]? = some x → w.cell? ⟨bk, o + j, none⟩ = some (.string x)) (hbk : bk < w.heap.size) (hN : xs.length ≤ 140737488355328) (hcap : xs.length ≤ c) (hlen : (Lib.join (xs.map (·.data.toList)) sep.data.toList).length ≤ 140737488355328) :
  Calls Tryz.prog 95 #[.slice (some ⟨bk, o, none⟩) xs.length c, .string sep] w fun e w' => e = .returned (.string ⟨(Lib.join (xs.map (·.data.toList)) sep.data.toList).toArray⟩) ∧ Below w.heap.size w w' := Any.strings_Join Tryz.lays156 Tryz.Builder_Extra_156 bk o c xs sep w hcells hbk hN hcap hlen
def Tryz.lays160_ren : Go.Shelf.Ren := ⟨fun | 160 => 155 | 232 => 182 | 231 => 181 | 227 => 183 | 234 => 185 | 233 => 184 | 236 => 187 | 235 => 186 | 228 => 214 | 271 => 216 | 151 => 215 | 197 => 147 | 120 => 228 | 152 => 227 | 260 => 174 | 137 => 238 | 119 => 239 | 224 => 177 | 225 => 176 | 217 => 175 | 266 => 210 | n => n, fun | 9 => 9 | 4 => 4 | 3 => 3 | 5 => 5 | 117 => 205 | 116 => 204 | 0 => 0 | 124 => 208 | 21 => 21 | 105 => 181 | 46 => 89 | 119 => 222 | 139 => 225 | 138 => 224 | n => n, fun | 3 => 1 | 4 => 2 | n => n⟩
theorem Tryz.lays160 : Go.Proofs.Lays.n160 Tryz.prog Tryz.lays160_ren := {
 mixed := by kernel_rfl
 f119 := Tryz.func239.trans (congrArg some (by kernel_rfl))
 f120 := Tryz.func228.trans (congrArg some (by kernel_rfl))
 f137 := Tryz.func238.trans (congrArg some (by kernel_rfl))
 f151 := Tryz.func215.trans (congrArg some (by kernel_rfl))
 f152 := Tryz.func227.trans (congrArg some (by kernel_rfl))
 f160 := Tryz.func155.trans (congrArg some (by kernel_rfl))
 f197 := Tryz.func147.trans (congrArg some (by kernel_rfl))
 f217 := Tryz.func175.trans (congrArg some (by kernel_rfl))
 f224 := Tryz.func177.trans (congrArg some (by kernel_rfl))
 f225 := Tryz.func176.trans (congrArg some (by kernel_rfl))
 f227 := Tryz.func183.trans (congrArg some (by kernel_rfl))
 f228 := Tryz.func214.trans (congrArg some (by kernel_rfl))
 f231 := Tryz.func181.trans (congrArg some (by kernel_rfl))
 f232 := Tryz.func182.trans (congrArg some (by kernel_rfl))
 f233 := Tryz.func184.trans (congrArg some (by kernel_rfl))
 f234 := Tryz.func185.trans (congrArg some (by kernel_rfl))
 f235 := Tryz.func186.trans (congrArg some (by kernel_rfl))
 f236 := Tryz.func187.trans (congrArg some (by kernel_rfl))
 f260 := Tryz.func174.trans (congrArg some (by kernel_rfl))
 f266 := Tryz.func210.trans (congrArg some (by kernel_rfl))
 f271 := Tryz.func216.trans (congrArg some (by kernel_rfl))
 t0 := Tryz.underlying0
 a0 := Tryz.isAgg0
 z0 := Tryz.sizeOf0
 v0 := Tryz.zeroValue0
 t3 := Tryz.underlying3
 a3 := Tryz.isAgg3
 z3 := Tryz.sizeOf3
 v3 := Tryz.zeroValue3
 t4 := Tryz.underlying4
 a4 := Tryz.isAgg4
 z4 := Tryz.sizeOf4
 v4 := Tryz.zeroValue4
 t5 := Tryz.underlying5
 a5 := Tryz.isAgg5
 z5 := Tryz.sizeOf5
 v5 := Tryz.zeroValue5
 t9 := Tryz.underlying9
 a9 := Tryz.isAgg9
 z9 := Tryz.sizeOf9
 v9 := Tryz.zeroValue9
 t21 := Tryz.underlying21
 a21 := Tryz.isAgg21
 z21 := Tryz.sizeOf21
 v21 := Tryz.zeroValue21
 t46 := Tryz.underlying89
 a46 := Tryz.isAgg89
 z46 := Tryz.sizeOf89
 v46 := Tryz.zeroValue89
 t105 := Tryz.underlying181
 a105 := Tryz.isAgg181
 z105 := Tryz.sizeOf181
 v105 := Tryz.zeroValue181
 t116 := Tryz.underlying204
 a116 := Tryz.isAgg204
 z116 := Tryz.sizeOf204
 t117 := Tryz.underlying205
 a117 := Tryz.isAgg205
 z117 := Tryz.sizeOf205
 v117 := Tryz.zeroValue205
 t119 := Tryz.underlying222
 a119 := Tryz.isAgg222
 z119 := Tryz.sizeOf222
 t124 := Tryz.underlying208
 a124 := Tryz.isAgg208
 z124 := Tryz.sizeOf208
 v124 := Tryz.zeroValue208
 t138 := Tryz.underlying224
 a138 := Tryz.isAgg224
 z138 := Tryz.sizeOf224
 v138 := Tryz.zeroValue224
 t139 := Tryz.underlying225
 a139 := Tryz.isAgg225
 z139 := Tryz.sizeOf225
 v139 := Tryz.zeroValue225
 g3 := by kernel_rfl
 g4 := by kernel_rfl }
open Go.RowKit in
theorem Tryz.strings_Trim_one (s : ByteArray) (c : UInt8) (hc : c.toNat < 128) (w : World) (hs : s.size ≤ 9223372036854775807) :
  Calls Tryz.prog 155 #[.string s, .string ⟨#[c]⟩] w fun e w' => e = .returned (.string ⟨(Lib.trimB s.data.toList c).toArray⟩) ∧ (w' = w ∨ w' = w.drew) := Any.strings_Trim_one Tryz.lays160 s c hc w hs
def Tryz.lays103_ren : Go.Shelf.Ren := ⟨fun | 103 => 128 | 210 => 162 | 206 => 196 | n => n, fun | 9 => 9 | 4 => 4 | 24 => 166 | 3 => 3 | n => n, fun | n => n⟩
theorem Tryz.lays103 : Go.Proofs.Lays.n103 Tryz.prog Tryz.lays103_ren := {
 mixed := by kernel_rfl
 f103 := Tryz.func128.trans (congrArg some (by kernel_rfl))
 f206 := Tryz.func196.trans (congrArg some (by kernel_rfl))
 f210 := Tryz.func162.trans (congrArg some (by kernel_rfl))
 t3 := Tryz.underlying3
 a3 := Tryz.isAgg3
 z3 := Tryz.sizeOf3
 v3 := Tryz.zeroValue3
 t4 := Tryz.underlying4
 a4 := Tryz.isAgg4
 z4 := Tryz.sizeOf4
 v4 := Tryz.zeroValue4
 t9 := Tryz.underlying9
 a9 := Tryz.isAgg9
 z9 := Tryz.sizeOf9
 v9 := Tryz.zeroValue9
 t24 := Tryz.underlying166
 a24 := Tryz.isAgg166
 z24 := Tryz.sizeOf166
 v24 := Tryz.zeroValue166 }
open Go.RowKit in
theorem Tryz.strings_CutPrefix (s p : ByteArray) (w : World) :
  Calls Tryz.prog 128 #[.string s, .string p] w fun e w' => e = .returned (.tuple #[.string ⟨(Lib.trimPrefix s.data.toList p.data.toList).toArray⟩, .bool (Lib.hasPrefix s.data.toList p.data.toList)]) ∧ w' = w := Any.strings_CutPrefix Tryz.lays103 s p w
def Tryz.laysM171_ren : Go.Shelf.Ren := ⟨fun | 171 => 165 | 243 => 198 | 246 => 218 | 283 => 229 | 284 => 230 | 285 => 231 | 286 => 232 | 129 => 241 | 317 => 240 | 318 => 242 | 319 => 243 | 320 => 244 | 337 => 246 | 338 => 247 | n => n, fun | 3 => 3 | 9 => 9 | 2 => 2 | 4 => 4 | 171 => 235 | 0 => 0 | 53 => 49 | 37 => 53 | 5 => 5 | 173 => 238 | 212 => 244 | 51 => 226 | 20 => 20 | 213 => 245 | 46 => 89 | 232 => 248 | 233 => 249 | n => n, fun | 17 => 3 | 18 => 4 | 19 => 5 | n => n⟩
theorem Tryz.laysM171 : Go.Proofs.LaysM.n171 Tryz.prog Tryz.laysM171_ren := {
 mixed := by kernel_rfl
 f129 := Tryz.func241.trans (congrArg some (by kernel_rfl))
 f171 := Tryz.func165.trans (congrArg some (by kernel_rfl))
 f243 := Tryz.func198.trans (congrArg some (by kernel_rfl))
 f246 := Tryz.func218.trans (congrArg some (by kernel_rfl))
 f283 := Tryz.func229.trans (congrArg some (by kernel_rfl))
 f284 := Tryz.func230.trans (congrArg some (by kernel_rfl))
 f285 := Tryz.func231.trans (congrArg some (by kernel_rfl))
 f286 := Tryz.func232.trans (congrArg some (by kernel_rfl))
 f317 := Tryz.func240.trans (congrArg some (by kernel_rfl))
 f318 := Tryz.func242.trans (congrArg some (by kernel_rfl))
 f319 := Tryz.func243.trans (congrArg some (by kernel_rfl))
 f320 := Tryz.func244.trans (congrArg some (by kernel_rfl))
 f337 := Tryz.func246.trans (congrArg some (by kernel_rfl))
 f338 := Tryz.func247.trans (congrArg some (by kernel_rfl))
 t0 := Tryz.underlying0
 a0 := Tryz.isAgg0
 z0 := Tryz.sizeOf0
 v0 := Tryz.zeroValue0
 t2 := Tryz.underlying2
 a2 := Tryz.isAgg2
 z2 := Tryz.sizeOf2
 v2 := Tryz.zeroValue2
 t3 := Tryz.underlying3
 a3 := Tryz.isAgg3
 z3 := Tryz.sizeOf3
 v3 := Tryz.zeroValue3
 t4 := Tryz.underlying4
 a4 := Tryz.isAgg4
 z4 := Tryz.sizeOf4
 v4 := Tryz.zeroValue4
 t5 := Tryz.underlying5
 a5 := Tryz.isAgg5
 z5 := Tryz.sizeOf5
 v5 := Tryz.zeroValue5
 t9 := Tryz.underlying9
 a9 := Tryz.isAgg9
 z9 := Tryz.sizeOf9
 v9 := Tryz.zeroValue9
 t20 := Tryz.underlying20
 a20 := Tryz.isAgg20
 z20 := Tryz.sizeOf20
 v20 := Tryz.zeroValue20
 t37 := Tryz.underlying53
 a37 := Tryz.isAgg53
 z37 := Tryz.sizeOf53
 v37 := Tryz.zeroValue53
 t46 := Tryz.underlying89
 a46 := Tryz.isAgg89
 z46 := Tryz.sizeOf89
 v46 := Tryz.zeroValue89
 t51 := Tryz.underlying226
 a51 := Tryz.isAgg226
 z51 := Tryz.sizeOf226
 v51 := Tryz.zeroValue226
 t53 := Tryz.underlying49
 a53 := Tryz.isAgg49
 z53 := Tryz.sizeOf49
 v53 := Tryz.zeroValue49
 t171 := Tryz.underlying235
 a171 := Tryz.isAgg235
 z171 := Tryz.sizeOf235
 v171 := Tryz.zeroValue235
 t173 := Tryz.underlying238
 a173 := Tryz.isAgg238
 z173 := Tryz.sizeOf238
 v173 := Tryz.zeroValue238
 t212 := Tryz.underlying244
 a212 := Tryz.isAgg244
 z212 := Tryz.sizeOf244
 v212 := Tryz.zeroValue244
 t213 := Tryz.underlying245
 a213 := Tryz.isAgg245
 z213 := Tryz.sizeOf245
 t232 := Tryz.underlying248
 a232 := Tryz.isAgg248
 z232 := Tryz.sizeOf248
 v232 := Tryz.zeroValue248
 t233 := Tryz.underlying249
 a233 := Tryz.isAgg249
 z233 := Tryz.sizeOf249
 v233 := Tryz.zeroValue249
 g17 := by kernel_rfl
 g18 := by kernel_rfl
 g19 := by kernel_rfl
 i0 := by kernel_rfl
 i2 := by kernel_rfl
 i3 := by kernel_rfl
 i4 := by kernel_rfl
 i5 := by kernel_rfl
 i9 := by kernel_rfl
 i20 := by kernel_rfl
 i37 := by kernel_rfl
 i46 := by kernel_rfl
 i51 := by kernel_rfl
 i53 := by kernel_rfl
 i171 := by kernel_rfl
 i173 := by kernel_rfl
 i212 := by kernel_rfl
 i232 := by kernel_rfl
 i233 := by kernel_rfl
 m17 := by kernel_rfl
 m18 := by kernel_rfl
 m19 := by kernel_rfl }
open Go.RowKit Go.Sort Go.Lib in
theorem Tryz.strconv_Itoa (n : Int) (h0 : -9223372036854775808 ≤ n) (h1 : n ≤ 9223372036854775807) (w : World) (htab : Lib.TabIs Tryz.prog w "internal/strconv.uint64pow10" .u64 Lib.pow10Tab) :
  Calls Tryz.prog 165 #[.int .i64 n] w fun e w' => e = .returned (.string ⟨(Lib.itoa n).toArray⟩) ∧ ∃ k os, w' = grow (w.drewN k) os := Any.strconv_Itoa Tryz.laysM171 n h0 h1 w htab
def Tryz.lays145_ren : Go.Shelf.Ren := ⟨fun | 145 => 129 | 220 => 163 | 219 => 149 | 217 => 175 | 225 => 176 | 224 => 177 | 267 => 178 | 266 => 210 | 314 => 211 | n => n, fun | 9 => 9 | 4 => 4 | 59 => 168 | 3 => 3 | 5 => 5 | 46 => 89 | 146 => 227 | 51 => 226 | n => n, fun | 1 => 0 | n => n⟩
theorem Tryz.lays145 : Go.Proofs.Lays.n145 Tryz.prog Tryz.lays145_ren := {
 mixed := by kernel_rfl
 f145 := Tryz.func129.trans (congrArg some (by kernel_rfl))
 f217 := Tryz.func175.trans (congrArg some (by kernel_rfl))
 f219 := Tryz.func149.trans (congrArg some (by kernel_rfl))
 f220 := Tryz.func163.trans (congrArg some (by kernel_rfl))
 f224 := Tryz.func177.trans (congrArg some (by kernel_rfl))
 f225 := Tryz.func176.trans (congrArg some (by kernel_rfl))
 f266 := Tryz.func210.trans (congrArg some (by kernel_rfl))
 f267 := Tryz.func178.trans (congrArg some (by kernel_rfl))
 f314 := Tryz.func211.trans (congrArg some (by kernel_rfl))
 t3 := Tryz.underlying3
 a3 := Tryz.isAgg3
 z3 := Tryz.sizeOf3
 v3 := Tryz.zeroValue3
 t4 := Tryz.underlying4
 a4 := Tryz.isAgg4
 z4 := Tryz.sizeOf4
 v4 := Tryz.zeroValue4
 t5 := Tryz.underlying5
 a5 := Tryz.isAgg5
 z5 := Tryz.sizeOf5
 v5 := Tryz.zeroValue5
 t9 := Tryz.underlying9
 a9 := Tryz.isAgg9
 z9 := Tryz.sizeOf9
 v9 := Tryz.zeroValue9
 t46 := Tryz.underlying89
 a46 := Tryz.isAgg89
 z46 := Tryz.sizeOf89
 v46 := Tryz.zeroValue89
 t51 := Tryz.underlying226
 a51 := Tryz.isAgg226
 z51 := Tryz.sizeOf226
 v51 := Tryz.zeroValue226
 t59 := Tryz.underlying168
 a59 := Tryz.isAgg168
 z59 := Tryz.sizeOf168
 v59 := Tryz.zeroValue168
 t146 := Tryz.underlying227
 a146 := Tryz.isAgg227
 z146 := Tryz.sizeOf227
 v146 := Tryz.zeroValue227
 g1 := by kernel_rfl }
open Go.RowKit Go.Lib in
theorem Tryz.strings_Cut (s sep : ByteArray) (m : Int) (w : World) (hs : s.size < 4294967281) (hm : w.cell? ⟨0, 0, none⟩ = some (.int .i64 m)) :
  Calls Tryz.prog 129 #[.string s, .string sep] w fun e w' => e = .returned (.tuple #[.string ⟨(Lib.cut s.data.toList sep.data.toList).1.toArray⟩, .string ⟨(Lib.cut s.data.toList sep.data.toList).2.1.toArray⟩, .bool (Lib.cut s.data.toList sep.data.toList).2.2]) ∧ ∃ n, w' = w.drewN n := Any.strings_Cut Tryz.lays145 s sep m w hs hm
def Tryz.laysM219_ren : Go.Shelf.Ren := ⟨fun | 219 => 149 | 217 => 175 | 225 => 176 | 224 => 177 | 267 => 178 | 266 => 210 | 314 => 211 | n => n, fun | 9 => 9 | 3 => 3 | 4 => 4 | 5 => 5 | 46 => 89 | 146 => 227 | 51 => 226 | n => n, fun | 1 => 0 | n => n⟩
theorem Tryz.laysM219 : Go.Proofs.LaysM.n219 Tryz.prog Tryz.laysM219_ren := {
 mixed := by kernel_rfl
 f217 := Tryz.func175.trans (congrArg some (by kernel_rfl))
 f219 := Tryz.func149.trans (congrArg some (by kernel_rfl))
 f224 := Tryz.func177.trans (congrArg some (by kernel_rfl))
 f225 := Tryz.func176.trans (congrArg some (by kernel_rfl))
 f266 := Tryz.func210.trans (congrArg some (by kernel_rfl))
 f267 := Tryz.func178.trans (congrArg some (by kernel_rfl))
 f314 := Tryz.func211.trans (congrArg some (by kernel_rfl))
 t3 := Tryz.underlying3
 a3 := Tryz.isAgg3
 z3 := Tryz.sizeOf3
 v3 := Tryz.zeroValue3
 t4 := Tryz.underlying4
 a4 := Tryz.isAgg4
 z4 := Tryz.sizeOf4
 v4 := Tryz.zeroValue4
 t5 := Tryz.underlying5
 a5 := Tryz.isAgg5
 z5 := Tryz.sizeOf5
 v5 := Tryz.zeroValue5
 t9 := Tryz.underlying9
 a9 := Tryz.isAgg9
 z9 := Tryz.sizeOf9
 v9 := Tryz.zeroValue9
 t46 := Tryz.underlying89
 a46 := Tryz.isAgg89
 z46 := Tryz.sizeOf89
 v46 := Tryz.zeroValue89
 t51 := Tryz.underlying226
 a51 := Tryz.isAgg226
 z51 := Tryz.sizeOf226
 v51 := Tryz.zeroValue226
 t146 := Tryz.underlying227
 a146 := Tryz.isAgg227
 z146 := Tryz.sizeOf227
 v146 := Tryz.zeroValue227
 g1 := by kernel_rfl
 i3 := by kernel_rfl
 i4 := by kernel_rfl
 i5 := by kernel_rfl
 i9 := by kernel_rfl
 i46 := by kernel_rfl
 i51 := by kernel_rfl
 i146 := by kernel_rfl
 m1 := by kernel_rfl
 s1_3 := fun w h => Go.Proofs.cell_of_shapedOpen_int (zero := #[.int .i64 0]) (t := 3) h (of_decide_eq_true (by kernel_rfl)) (by kernel_rfl) rfl (by kernel_rfl) (by kernel_rfl) Tryz.underlying3 }
def Tryz.lays221_ren : Go.Shelf.Ren := ⟨fun | 221 => 60 | 268 => 109 | 138 => 110 | 143 => 111 | 195 => 146 | 197 => 147 | 218 => 148 | 219 => 149 | 260 => 174 | 217 => 175 | 225 => 176 | 224 => 177 | 267 => 178 | 266 => 210 | 314 => 211 | n => n, fun | 9 => 9 | 3 => 3 | 31 => 55 | 4 => 4 | 0 => 0 | 105 => 181 | 21 => 21 | 5 => 5 | 46 => 89 | 119 => 222 | 139 => 225 | 138 => 224 | 146 => 227 | 51 => 226 | n => n, fun | 1 => 0 | 3 => 1 | 4 => 2 | n => n⟩
theorem Tryz.lays221 : Go.Proofs.Lays.n221 Tryz.prog Tryz.lays221_ren := {
 mixed := by kernel_rfl
 f138 := Tryz.func110.trans (congrArg some (by kernel_rfl))
 f143 := Tryz.func111.trans (congrArg some (by kernel_rfl))
 f195 := Tryz.func146.trans (congrArg some (by kernel_rfl))
 f197 := Tryz.func147.trans (congrArg some (by kernel_rfl))
 f217 := Tryz.func175.trans (congrArg some (by kernel_rfl))
 f218 := Tryz.func148.trans (congrArg some (by kernel_rfl))
 f219 := Tryz.func149.trans (congrArg some (by kernel_rfl))
 f221 := Tryz.func60.trans (congrArg some (by kernel_rfl))
 f224 := Tryz.func177.trans (congrArg some (by kernel_rfl))
 f225 := Tryz.func176.trans (congrArg some (by kernel_rfl))
 f260 := Tryz.func174.trans (congrArg some (by kernel_rfl))
 f266 := Tryz.func210.trans (congrArg some (by kernel_rfl))
 f267 := Tryz.func178.trans (congrArg some (by kernel_rfl))
 f268 := Tryz.func109.trans (congrArg some (by kernel_rfl))
 f314 := Tryz.func211.trans (congrArg some (by kernel_rfl))
 t0 := Tryz.underlying0
 a0 := Tryz.isAgg0
 z0 := Tryz.sizeOf0
 v0 := Tryz.zeroValue0
 t3 := Tryz.underlying3
 a3 := Tryz.isAgg3
 z3 := Tryz.sizeOf3
 v3 := Tryz.zeroValue3
 t4 := Tryz.underlying4
 a4 := Tryz.isAgg4
 z4 := Tryz.sizeOf4
 v4 := Tryz.zeroValue4
 t5 := Tryz.underlying5
 a5 := Tryz.isAgg5
 z5 := Tryz.sizeOf5
 v5 := Tryz.zeroValue5
 t9 := Tryz.underlying9
 a9 := Tryz.isAgg9
 z9 := Tryz.sizeOf9
 v9 := Tryz.zeroValue9
 t21 := Tryz.underlying21
 a21 := Tryz.isAgg21
 z21 := Tryz.sizeOf21
 v21 := Tryz.zeroValue21
 t31 := Tryz.underlying55
 a31 := Tryz.isAgg55
 z31 := Tryz.sizeOf55
 v31 := Tryz.zeroValue55
 t46 := Tryz.underlying89
 a46 := Tryz.isAgg89
 z46 := Tryz.sizeOf89
 v46 := Tryz.zeroValue89
 t51 := Tryz.underlying226
 a51 := Tryz.isAgg226
 z51 := Tryz.sizeOf226
 v51 := Tryz.zeroValue226
 t105 := Tryz.underlying181
 a105 := Tryz.isAgg181
 z105 := Tryz.sizeOf181
 v105 := Tryz.zeroValue181
 t119 := Tryz.underlying222
 a119 := Tryz.isAgg222
 z119 := Tryz.sizeOf222
 t138 := Tryz.underlying224
 a138 := Tryz.isAgg224
 z138 := Tryz.sizeOf224
 v138 := Tryz.zeroValue224
 t139 := Tryz.underlying225
 a139 := Tryz.isAgg225
 z139 := Tryz.sizeOf225
 v139 := Tryz.zeroValue225
 t146 := Tryz.underlying227
 a146 := Tryz.isAgg227
 z146 := Tryz.sizeOf227
 v146 := Tryz.zeroValue227
 g1 := by kernel_rfl
 g3 := by kernel_rfl
 g4 := by kernel_rfl }
open Go.RowKit Go.Lib in
theorem Tryz.strings_genSplit (s sep : ByteArray) (sv : Nat) (n : Int) (N : Nat) (m : Int) (w : World) (hs : s.size < 4294967281) (hm : w.cell? ⟨0, 0, none⟩ = some (.int .i64 m)) (h1 : 1 ≤ sep.size) (hsv : sv ≤ sep.size) (hn0 : n ≠ 0) (hn63 : n ≤ 9223372036854775807) (hN : (N : Int) = min (if n < 0 then (Lib.countB s sep : Int) + 1 else n) ((s.size : Int) + 1)) :
  Calls Tryz.prog 60 #[.string s, .string sep, .int .i64 sv, .int .i64 n] w fun e w' =>
   e = .returned (.slice (some ⟨w.heap.size, 0, none⟩) (Lib.splitB sep sv (N - 1) s).length N) ∧ w' = w.alloc (.cells (Lib.cellsOf (Lib.splitB sep sv (N - 1) s) N) 9) := Any.strings_genSplit Tryz.lays221 (by kernel_rfl) s sep sv n N m w hs hm h1 hsv hn0 hn63 hN
def Tryz.lays146_ren : Go.Shelf.Ren := ⟨fun | 146 => 28 | 221 => 60 | 268 => 109 | 138 => 110 | 143 => 111 | 195 => 146 | 197 => 147 | 218 => 148 | 219 => 149 | 260 => 174 | 217 => 175 | 225 => 176 | 224 => 177 | 267 => 178 | 266 => 210 | 314 => 211 | n => n, fun | 9 => 9 | 31 => 55 | 3 => 3 | 4 => 4 | 0 => 0 | 105 => 181 | 21 => 21 | 5 => 5 | 46 => 89 | 119 => 222 | 139 => 225 | 138 => 224 | 146 => 227 | 51 => 226 | n => n, fun | 1 => 0 | 3 => 1 | 4 => 2 | n => n⟩
theorem Tryz.lays146 : Go.Proofs.Lays.n146 Tryz.prog Tryz.lays146_ren := {
 mixed := by kernel_rfl
 f138 := Tryz.func110.trans (congrArg some (by kernel_rfl))
 f143 := Tryz.func111.trans (congrArg some (by kernel_rfl))
 f146 := Tryz.func28.trans (congrArg some (by kernel_rfl))
 f195 := Tryz.func146.trans (congrArg some (by kernel_rfl))
 f197 := Tryz.func147.trans (congrArg some (by kernel_rfl))
 f217 := Tryz.func175.trans (congrArg some (by kernel_rfl))
 f218 := Tryz.func148.trans (congrArg some (by kernel_rfl))
 f219 := Tryz.func149.trans (congrArg some (by kernel_rfl))
 f221 := Tryz.func60.trans (congrArg some (by kernel_rfl))
 f224 := Tryz.func177.trans (congrArg some (by kernel_rfl))
 f225 := Tryz.func176.trans (congrArg some (by kernel_rfl))
 f260 := Tryz.func174.trans (congrArg some (by kernel_rfl))
 f266 := Tryz.func210.trans (congrArg some (by kernel_rfl))
 f267 := Tryz.func178.trans (congrArg some (by kernel_rfl))
 f268 := Tryz.func109.trans (congrArg some (by kernel_rfl))
 f314 := Tryz.func211.trans (congrArg some (by kernel_rfl))
 t0 := Tryz.underlying0
 a0 := Tryz.isAgg0
 z0 := Tryz.sizeOf0
 v0 := Tryz.zeroValue0
 t3 := Tryz.underlying3
 a3 := Tryz.isAgg3
 z3 := Tryz.sizeOf3
 v3 := Tryz.zeroValue3
 t4 := Tryz.underlying4
 a4 := Tryz.isAgg4
 z4 := Tryz.sizeOf4
 v4 := Tryz.zeroValue4
 t5 := Tryz.underlying5
 a5 := Tryz.isAgg5
 z5 := Tryz.sizeOf5
 v5 := Tryz.zeroValue5
 t9 := Tryz.underlying9
 a9 := Tryz.isAgg9
 z9 := Tryz.sizeOf9
 v9 := Tryz.zeroValue9
 t21 := Tryz.underlying21
 a21 := Tryz.isAgg21
 z21 := Tryz.sizeOf21
 v21 := Tryz.zeroValue21
 t31 := Tryz.underlying55
 a31 := Tryz.isAgg55
 z31 := Tryz.sizeOf55
 v31 := Tryz.zeroValue55
 t46 := Tryz.underlying89
 a46 := Tryz.isAgg89
 z46 := Tryz.sizeOf89
 v46 := Tryz.zeroValue89
 t51 := Tryz.underlying226
 a51 := Tryz.isAgg226
 z51 := Tryz.sizeOf226
 v51 := Tryz.zeroValue226
 t105 := Tryz.underlying181
 a105 := Tryz.isAgg181
 z105 := Tryz.sizeOf181
 v105 := Tryz.zeroValue181
 t119 := Tryz.underlying222
 a119 := Tryz.isAgg222
 z119 := Tryz.sizeOf222
 t138 := Tryz.underlying224
 a138 := Tryz.isAgg224
 z138 := Tryz.sizeOf224
 v138 := Tryz.zeroValue224
 t139 := Tryz.underlying225
 a139 := Tryz.isAgg225
 z139 := Tryz.sizeOf225
 v139 := Tryz.zeroValue225
 t146 := Tryz.underlying227
 a146 := Tryz.isAgg227
 z146 := Tryz.sizeOf227
 v146 := Tryz.zeroValue227
 g1 := by kernel_rfl
 g3 := by kernel_rfl
 g4 := by kernel_rfl }
open Go.RowKit Go.Lib in
theorem Tryz.strings_Split (s sep : ByteArray) (m : Int) (w : World) (hs : s.size < 4294967281) (hm : w.cell? ⟨0, 0, none⟩ = some (.int .i64 m)) (h1 : 1 ≤ sep.size) :
  Calls Tryz.prog 28 #[.string s, .string sep] w fun e w' =>
   e = .returned (.slice (some ⟨w.heap.size, 0, none⟩) (Lib.countB s sep + 1) (Lib.countB s sep + 1)) ∧ w' = w.alloc (.cells ((Lib.splitB sep 0 (Lib.countB s sep) s).map Value.string).toArray 9) := Any.strings_Split Tryz.lays146 (by kernel_rfl) s sep m w hs hm h1
def Tryz.lays147_ren : Go.Shelf.Ren := ⟨fun | 147 => 112 | 221 => 60 | 268 => 109 | 138 => 110 | 143 => 111 | 195 => 146 | 197 => 147 | 218 => 148 | 219 => 149 | 260 => 174 | 217 => 175 | 225 => 176 | 224 => 177 | 267 => 178 | 266 => 210 | 314 => 211 | n => n, fun | 9 => 9 | 3 => 3 | 31 => 55 | 4 => 4 | 0 => 0 | 105 => 181 | 21 => 21 | 5 => 5 | 46 => 89 | 119 => 222 | 139 => 225 | 138 => 224 | 146 => 227 | 51 => 226 | n => n, fun | 1 => 0 | 3 => 1 | 4 => 2 | n => n⟩
theorem Tryz.lays147 : Go.Proofs.Lays.n147 Tryz.prog Tryz.lays147_ren := {
 mixed := by kernel_rfl
 f138 := Tryz.func110.trans (congrArg some (by kernel_rfl))
 f143 := Tryz.func111.trans (congrArg some (by kernel_rfl))
 f147 := Tryz.func112.trans (congrArg some (by kernel_rfl))
 f195 := Tryz.func146.trans (congrArg some (by kernel_rfl))
 f197 := Tryz.func147.trans (congrArg some (by kernel_rfl))
 f217 := Tryz.func175.trans (congrArg some (by kernel_rfl))
 f218 := Tryz.func148.trans (congrArg some (by kernel_rfl))
 f219 := Tryz.func149.trans (congrArg some (by kernel_rfl))
 f221 := Tryz.func60.trans (congrArg some (by kernel_rfl))
 f224 := Tryz.func177.trans (congrArg some (by kernel_rfl))
 f225 := Tryz.func176.trans (congrArg some (by kernel_rfl))
 f260 := Tryz.func174.trans (congrArg some (by kernel_rfl))
 f266 := Tryz.func210.trans (congrArg some (by kernel_rfl))
 f267 := Tryz.func178.trans (congrArg some (by kernel_rfl))
 f268 := Tryz.func109.trans (congrArg some (by kernel_rfl))
 f314 := Tryz.func211.trans (congrArg some (by kernel_rfl))
 t0 := Tryz.underlying0
 a0 := Tryz.isAgg0
 z0 := Tryz.sizeOf0
 v0 := Tryz.zeroValue0
 t3 := Tryz.underlying3
 a3 := Tryz.isAgg3
 z3 := Tryz.sizeOf3
 v3 := Tryz.zeroValue3
 t4 := Tryz.underlying4
 a4 := Tryz.isAgg4
 z4 := Tryz.sizeOf4
 v4 := Tryz.zeroValue4
 t5 := Tryz.underlying5
 a5 := Tryz.isAgg5
 z5 := Tryz.sizeOf5
 v5 := Tryz.zeroValue5
 t9 := Tryz.underlying9
 a9 := Tryz.isAgg9
 z9 := Tryz.sizeOf9
 v9 := Tryz.zeroValue9
 t21 := Tryz.underlying21
 a21 := Tryz.isAgg21
 z21 := Tryz.sizeOf21
 v21 := Tryz.zeroValue21
 t31 := Tryz.underlying55
 a31 := Tryz.isAgg55
 z31 := Tryz.sizeOf55
 v31 := Tryz.zeroValue55
 t46 := Tryz.underlying89
 a46 := Tryz.isAgg89
 z46 := Tryz.sizeOf89
 v46 := Tryz.zeroValue89
 t51 := Tryz.underlying226
 a51 := Tryz.isAgg226
 z51 := Tryz.sizeOf226
 v51 := Tryz.zeroValue226
 t105 := Tryz.underlying181
 a105 := Tryz.isAgg181
 z105 := Tryz.sizeOf181
 v105 := Tryz.zeroValue181
 t119 := Tryz.underlying222
 a119 := Tryz.isAgg222
 z119 := Tryz.sizeOf222
 t138 := Tryz.underlying224
 a138 := Tryz.isAgg224
 z138 := Tryz.sizeOf224
 v138 := Tryz.zeroValue224
 t139 := Tryz.underlying225
 a139 := Tryz.isAgg225
 z139 := Tryz.sizeOf225
 v139 := Tryz.zeroValue225
 t146 := Tryz.underlying227
 a146 := Tryz.isAgg227
 z146 := Tryz.sizeOf227
 v146 := Tryz.zeroValue227
 g1 := by kernel_rfl
 g3 := by kernel_rfl
 g4 := by kernel_rfl }
open Go.RowKit Go.Lib in
theorem Tryz.strings_SplitN (s sep : ByteArray) (n : Nat) (m : Int) (w : World) (hs : s.size < 4294967281) (hm : w.cell? ⟨0, 0, none⟩ = some (.int .i64 m)) (h1 : 1 ≤ sep.size) (hn : 1 ≤ n) (hn63 : n ≤ 9223372036854775807) :
  Calls Tryz.prog 112 #[.string s, .string sep, .int .i64 n] w fun e w' =>
   e = .returned (.slice (some ⟨w.heap.size, 0, none⟩) (Lib.splitB sep 0 (min n (s.size + 1) - 1) s).length (min n (s.size + 1))) ∧ w' = w.alloc (.cells (Lib.cellsOf (Lib.splitB sep 0 (min n (s.size + 1) - 1) s) (min n (s.size + 1))) 9) := Any.strings_SplitN Tryz.lays147 (by kernel_rfl) s sep n m w hs hm h1 hn hn63
def Tryz.laysNm216_ren : Go.Shelf.Ren := ⟨fun | 16 => 65 | n => n, fun | 24 => 55 | 9 => 9 | 4 => 4 | n => n, fun | n => n⟩
theorem Tryz.laysNm216 : Go.Proofs.Lays2.n16 Tryz.prog Tryz.laysNm216_ren := {
 mixed := by kernel_rfl
 f16 := Tryz.func65.trans (congrArg some (by kernel_rfl))
 t4 := Tryz.underlying4
 a4 := Tryz.isAgg4
 z4 := Tryz.sizeOf4
 v4 := Tryz.zeroValue4
 t9 := Tryz.underlying9
 a9 := Tryz.isAgg9
 z9 := Tryz.sizeOf9
 v9 := Tryz.zeroValue9
 t24 := Tryz.underlying55
 a24 := Tryz.isAgg55
 z24 := Tryz.sizeOf55
 v24 := Tryz.zeroValue55
 i9 := by kernel_rfl }
open Go.RowKit Go.Lib in
theorem Tryz.slices_Clone_string (b off n c : Nat) (zs : List ByteArray) (w : World) (hz : n ≤ zs.length) (hbig : n * 16 ≤ 140737488355328) (hc : ∀ j, j < zs.length → w.cell? ⟨b, off + j, none⟩ = some (.string (zs.getD j ByteArray.empty))) :
  Calls Tryz.prog 65 #[.slice (some ⟨b, off, none⟩) n c] w fun e w' => ∃ v', e = .returned v' ∧ w'.ownsRow w.heap.size 9 1 v' n ((zs.take n).map (Value.string)) ∧ v' ≠ .slice none 0 0 ∧ Below w.heap.size w w' := Any.slices_Clone_string Tryz.laysNm216 b off n c zs w hz hbig hc
open Go.RowKit Go.Lib in
theorem Tryz.slices_Clone_string_nil (n c : Nat) (w : World) :
  Calls Tryz.prog 65 #[.slice none n c] w fun e w' => e = .returned (.slice none 0 0) ∧ w' = w := Any.slices_Clone_string_nil Tryz.laysNm216 n c w
open Go.RowKit Go.Lib in
theorem Tryz.slices_Clone_string_zero (a : Addr) (c : Nat) (w : World) :
  Calls Tryz.prog 65 #[.slice (some a) 0 c] w fun e w' => ∃ v', e = .returned v' ∧ w'.ownsRow w.heap.size 9 1 v' 0 [] ∧ v' ≠ .slice none 0 0 ∧ Below w.heap.size w w' := Any.slices_Clone_string_zero Tryz.laysNm216 a c w
end Go.Proofs
end
namespace Go.Abs
theorem pre1 (b c : UInt8) (r : aq) : ([b] : aq).isPrefixOf (c :: r) = (b == c) := by simp [List.isPrefixOf]
def Ej : Option Nat → Int
 | some k => (k : Int)
 | none => -1
theorem rQ : ∀ (s : aq) (b : UInt8), Lib.index s [b] = Ej (s.findIdx? (fun c => c == b))
 | [], b => rfl
 | c :: r, b => by
  unfold Lib.index
  rw [pre1, List.findIdx?_cons, rQ r b]
  by_cases h : c = b
  ·subst h; simp [Ej]
  ·have h1 : (b == c) = false := by simp [Ne.symm h]
   have h2 : (c == b) = false := by simp [h]
   simp only [h1, h2, Bool.false_eq_true, if_false]
   cases r.findIdx? (fun c => c == b) with
   | none => rfl
   | some k =>
    simp only [Option.map_some]
    rw [if_neg (by simp [Ej])]
    simp [Ej]
theorem Fa (s : aq) (b : UInt8) : Lib.cut s [b] = dN s b := by
 unfold Lib.cut dN
 rw [rQ]
 cases s.findIdx? (fun c => c == b) with
 | none => simp [Ej]
 | some k => simp [Ej]
theorem zv (s p : aq) : (Lib.trimPrefix s p, Lib.hasPrefix s p) = cX s p := by
 unfold Lib.trimPrefix Lib.hasPrefix cX
 split <;> rename_i h
 ·rw [h]
 ·simp only [Bool.not_eq_true] at h; rw [h]
theorem wh (b : aq) : ∀ l, bj b l = Lib.join l b
 | [] => rfl
 | [t] => (Lib.join_one t b).symm
 | t :: u :: r => by
  rw [eu _ _ _ (by simp), wh b (u :: r), Lib.join_cons, Lib.join_cons]
  simp [Lib.joinTail]
theorem decDigits_eq (n : Nat) : Lib.decDigits n = gy n := by
 induction n using Nat.strongRecOn with
 | _ n ih =>
  rw [Lib.decDigits]
  by_cases h : n < 10
  ·rw [dif_pos h, qR h]; rfl
  ·rw [dif_neg h, qQ (by omega), ih (n / 10) (by omega)]; rfl
theorem Dh {n : Int} (h : 0 ≤ n) : Lib.itoa n = gy n.toNat := by
 unfold Lib.itoa
 rw [if_neg (by omega), decDigits_eq]
theorem pZ (b : UInt8) : ∀ (s cur : aq), s.findIdx? (fun c => c == b) = none → bq b.toNat s cur = [cur ++ s]
 | [], cur, _ => by simp [bq]
 | c :: r, cur, h => by
  rw [List.findIdx?_cons] at h
  split at h
  ·cases h
  ·rename_i hc
   have hr : r.findIdx? (fun c => c == b) = none := by
    cases hq : r.findIdx? (fun c => c == b) with
    | none => rfl
    | some k => rw [hq] at h; cases h
   have hne : ¬ ((c.toNat : Int) = (b.toNat : Int)) := fun e => hc (by
    have : c.toNat = b.toNat := by omega
    simp [UInt8.toNat_inj.1 this])
   simp only [bq, if_neg hne]
   rw [pZ b r (cur ++ [c]) hr]; simp
theorem n6 (b : UInt8) : ∀ (s cur : aq) (k : Nat), s.findIdx? (fun c => c == b) = some k → bq b.toNat s cur = (cur ++ s.take k) :: bq b.toNat (s.drop (k + 1)) []
 | [], cur, k, h => by simp at h
 | c :: r, cur, k, h => by
  rw [List.findIdx?_cons] at h
  split at h
  ·rename_i hc
   have hk : k = 0 := by simpa using h.symm
   subst hk
   have hcb : c = b := by simpa using hc
   subst hcb
   simp [bq]
  ·rename_i hc
   have hne : ¬ ((c.toNat : Int) = (b.toNat : Int)) := fun e => hc (by
    have : c.toNat = b.toNat := by omega
    simp [UInt8.toNat_inj.1 this])
   cases hq : r.findIdx? (fun c => c == b) with
   | none => rw [hq] at h; cases h
   | some j =>
    rw [hq] at h
    have hk : k = j + 1 := by simpa using h.symm
    subst hk
    simp only [bq, if_neg hne]
    rw [n6 b r (cur ++ [c]) j hq]; simp
theorem ud (b : UInt8) : ∀ (k : Nat) (s : ByteArray), Lib.countB s ⟨⟨[b]⟩⟩ = k → (Lib.splitB ⟨⟨[b]⟩⟩ 0 k s).map (fun t => t.data.toList) = ar s.data.toList b.toNat := by
 intro k
 induction k with
 | zero =>
  intro s h
  rw [Lib.splitB_zero]
  have hi : Lib.indexB s ⟨⟨[b]⟩⟩ = Ej (s.data.toList.findIdx? (fun c => c == b)) := rQ _ b
  cases hq : s.data.toList.findIdx? (fun c => c == b) with
  | none => simp [ar, pZ b _ [] hq]
  | some j =>
   rw [hq] at hi
   have := Lib.countB_hit s ⟨⟨[b]⟩⟩ j (Nat.le_refl 1) hi
   omega
 | succ k ih =>
  intro s h
  have hi : Lib.indexB s ⟨⟨[b]⟩⟩ = Ej (s.data.toList.findIdx? (fun c => c == b)) := rQ _ b
  cases hq : s.data.toList.findIdx? (fun c => c == b) with
  | none =>
   rw [hq] at hi
   have := Lib.countB_miss s ⟨⟨[b]⟩⟩ hi
   omega
  | some j =>
   rw [hq] at hi
   have h1 : 1 ≤ (⟨⟨[b]⟩⟩ : ByteArray).size := Nat.le_refl 1
   have hc := Lib.countB_hit s ⟨⟨[b]⟩⟩ j h1 hi
   rw [Lib.splitB_hit _ _ _ _ j hi]
   simp only [List.map_cons]
   rw [ih _ (by omega)]
   have e1 : (s.extract 0 (j + 0)).data.toList = s.data.toList.take j := by
    rw [Lib.extract_data]; simp
   have e2 : (s.extract (j + (⟨⟨[b]⟩⟩ : ByteArray).size) s.size).data.toList = s.data.toList.drop (j + 1) := by
    rw [Lib.extract_data]
    exact List.take_of_length_le (by rw [List.length_drop, Lib.size_eq]; exact Nat.le_refl _)
   rw [e1, e2]
   simp only [ar]
   rw [n6 b _ [] j hq]; simp
end Go.Abs
section
namespace Go.Abs
open Go.Proofs
theorem wU (sep : aq) (k : Nat) (s : aq) (h : Lib.index s sep = -1) : Lib.splitK sep 0 k s = [s] := by
 cases k with
 | zero => rfl
 | succ k => unfold Lib.splitK; rw [if_pos (beq_iff_eq.2 h)]
theorem yd (sep : aq) (k : Nat) (s : aq) (i : Nat) (h : Lib.index s sep = i) : Lib.splitK sep 0 (k + 1) s = s.take i :: Lib.splitK sep 0 k (s.drop (i + sep.length)) := by
 have hm : ¬ (Lib.index s sep == -1) = true := fun e => by have := beq_iff_eq.1 e; omega
 have e : (Lib.index s sep).toNat = i := by omega
 rw [Lib.splitK, if_neg hm, e]; rfl
theorem iK (b : UInt8) : ∀ (s cur : aq), bj [b] (bq b.toNat s cur) = cur ++ s
 | [], cur => by simp [bq, bj]
 | c :: r, cur => by
  unfold bq
  split
  ·rename_i h
   have hc : c = b := by
    have : c.toNat = b.toNat := by omega
    exact UInt8.toNat_inj.1 this
   have hne : bq b.toNat r [] ≠ [] := mX r b.toNat
   rw [eu _ _ _ hne, iK b r [], hc]; simp
  ·rw [iK b r (cur ++ [c])]; simp
theorem zu (a : aq) {l : List aq} (k : Nat) (hl : l ≠ []) : nP (k + 2) (a :: l) = a :: nP (k + 1) l := by
 unfold nP
 by_cases h : l.length ≤ k + 1
 ·rw [if_pos h, if_pos (by simp only [List.length_cons]; omega)]
 ·rw [if_neg h, if_neg (by simp only [List.length_cons]; omega)]
  simp
theorem Af : ∀ (k : Nat) (s : aq), Lib.splitK [32] 0 k s = nP (k + 1) (ar s 32) := by
 intro k
 induction k with
 | zero =>
  intro s
  have hj : bj [32] (ar s 32) = s := by
   have := iK 32 s []
   simpa [ar] using this
  unfold nP
  split
  ·rename_i h
   show [s] = _
   have hne : ar s 32 ≠ [] := mX _ _
   match hq : ar s 32, hne, h with
   | [t], _, _ => rw [hq] at hj; rw [← hj]; rfl
   | _ :: _ :: _, _, h => simp at h
  ·simp only [Nat.zero_add, Nat.sub_self, List.take_zero, List.drop_zero, List.nil_append, hj]; rfl
 | succ k ih =>
  intro s
  have hi := rQ s 32
  cases hq : s.findIdx? (fun c => c == 32) with
  | none =>
   rw [hq] at hi
   have hs : ar s 32 = [s] := by have := pZ 32 s [] hq; simpa [ar] using this
   rw [wU _ _ _ hi, hs]; rfl
  | some j =>
   rw [hq] at hi
   have hs : ar s 32 = s.take j :: ar (s.drop (j + 1)) 32 := by have := n6 32 s [] j hq; simpa [ar] using this
   rw [yd _ _ _ j hi, hs, zu _ _ (mX _ _), ih]; rfl
theorem yk (n : Nat) (h : 1 ≤ n) (s : aq) : Lib.splitK [32] 0 (min n (s.length + 1) - 1) s = gw (n : Int) s := by
 have hl := cY s 32
 rw [Af]
 unfold gw
 rw [if_neg (by omega), Int.toNat_natCast]
 by_cases hn : n ≤ s.length + 1
 ·rw [show min n (s.length + 1) - 1 + 1 = n by omega]
 ·rw [show min n (s.length + 1) - 1 + 1 = s.length + 1 by omega]
  unfold nP
  rw [if_pos hl, if_pos (by omega)]
theorem HV (c d : UInt8) (r : aq) : ([124, 124] : aq).isPrefixOf (c :: d :: r) = (decide (c = 124) && decide (d = 124)) := by
 have e : ∀ x : UInt8, ((124 : UInt8) == x) = decide (x = 124) := fun x => by
  by_cases h : x = 124
  ·subst h; rfl
  ·rw [decide_eq_false h]; exact beq_eq_false_iff_ne.2 (Ne.symm h)
 simp only [List.isPrefixOf, Bool.and_true, e]
theorem uf : ∀ (s cur : aq), Lib.index s [124, 124] = -1 → aK s cur = [cur ++ s]
 | [], cur, _ => by simp [aK]
 | [c], cur, _ => rfl
 | c :: d :: r, cur, h => by
  unfold Lib.index at h
  rw [HV] at h
  by_cases h2 : c = 124 ∧ d = 124
  ·simp [h2.1, h2.2] at h
  ·have h3 : (decide (c = 124) && decide (d = 124)) = false := by rw [← Bool.decide_and]; exact decide_eq_false h2
   rw [h3, if_neg (by simp)] at h
   have h4 : Lib.index (d :: r) [124, 124] = -1 := by
    have := Lib.index_ge (d :: r) [124, 124]
    split at h
    ·rename_i h5; exact beq_iff_eq.1 h5
    ·omega
   rw [aK, if_neg h2, uf (d :: r) _ h4]; simp
theorem ue : ∀ (s cur : aq) (i : Nat), Lib.index s [124, 124] = i → aK s cur = (cur ++ s.take i) :: aK (s.drop (i + 2)) []
 | [], cur, i, h => by simp [Lib.index] at h
 | [c], cur, i, h => by simp [Lib.index, List.isPrefixOf] at h
 | c :: d :: r, cur, i, h => by
  unfold Lib.index at h
  rw [HV] at h
  by_cases h2 : c = 124 ∧ d = 124
  ·rw [h2.1, h2.2] at h
   have hi : i = 0 := by simp at h; omega
   subst hi
   rw [aK, if_pos h2]; simp
  ·have h3 : (decide (c = 124) && decide (d = 124)) = false := by rw [← Bool.decide_and]; exact decide_eq_false h2
   rw [h3, if_neg (by simp)] at h
   split at h
   ·omega
   ·obtain ⟨j, rfl⟩ : ∃ j, i = j + 1 := ⟨i - 1, by
     have := Lib.index_ge (d :: r) [124, 124]
     rename_i h5
     have : Lib.index (d :: r) [124, 124] ≠ -1 := fun e => h5 (beq_iff_eq.2 e)
     omega⟩
    rw [aK, if_neg h2, ue (d :: r) _ j (by omega)]; simp
theorem Ae : ∀ (k : Nat) (s : ByteArray), Lib.countB s ⟨⟨[124, 124]⟩⟩ = k → (Lib.splitB ⟨⟨[124, 124]⟩⟩ 0 k s).map (fun t => t.data.toList) = aK s.data.toList [] := by
 intro k
 induction k with
 | zero =>
  intro s h
  rcases Lib.indexB_cases s ⟨⟨[124, 124]⟩⟩ with hi | ⟨i, hi, _⟩
  ·rw [Lib.splitB_zero]
   rw [uf _ _ (show Lib.index s.data.toList [124, 124] = -1 from hi)]; rfl
  ·have := Lib.countB_hit s ⟨⟨[124, 124]⟩⟩ i (by decide) hi
   omega
 | succ k ih =>
  intro s h
  rcases Lib.indexB_cases s ⟨⟨[124, 124]⟩⟩ with hi | ⟨i, hi, _⟩
  ·rw [Lib.countB_miss _ _ hi] at h; omega
  ·have hc := Lib.countB_hit s ⟨⟨[124, 124]⟩⟩ i (by decide) hi
   rw [Lib.splitB_hit _ _ _ _ i hi, List.map_cons, ih _ (by omega), ue _ _ i (show Lib.index s.data.toList [124, 124] = i from hi), Lib.extract_from_zero, Lib.extract_to_end]
   rfl
theorem uk {p : UInt8 → Bool} : ∀ (l : aq), ∀ x ∈ l.takeWhile p, p x = true
 | [], x, h => by cases h
 | a :: r, x, h => by
  rw [List.takeWhile_cons] at h
  split at h
  ·rename_i ha
   rcases List.mem_cons.1 h with rfl | h
   ·exact ha
   ·exact uk r x h
  ·cases h
theorem pB {p : UInt8 → Bool} : ∀ (l : aq), (∀ x ∈ l, p x = true) → l.dropWhile p = []
 | [], _ => rfl
 | a :: r, h => by
  rw [List.dropWhile_cons, if_pos (h a (.head _))]
  exact pB r fun x hx => h x (.tail _ hx)
theorem rv : ∀ s, oo s = s.dropWhile (· == 32)
 | [] => rfl
 | c :: r => by
  unfold oo
  by_cases h : c = 32
  ·rw [if_pos h, rv r]; simp [h]
  ·rw [if_neg h, List.dropWhile_cons, if_neg (by simpa using h)]
theorem AI (s : aq) : Lib.trimB s 32 = dZ s := by
 unfold Lib.trimB Lib.trimLeftB Lib.trimRightB dZ
 rw [rv, rv]
 generalize hp : (fun c : UInt8 => c == 32) = p
 have hs : s = s.takeWhile p ++ s.dropWhile p := (List.takeWhile_append_dropWhile).symm
 generalize ha : s.takeWhile p = a at hs
 generalize hm : s.dropWhile p = m at hs
 have hall : ∀ x ∈ a, p x = true := by rw [← ha]; exact uk s
 subst hs
 rw [List.reverse_append, List.dropWhile_append]
 cases m with
 | nil =>
  simp only [List.reverse_nil, List.dropWhile_nil, List.isEmpty_nil, if_true]
  rw [pB a.reverse (fun x hx => hall x (List.mem_reverse.1 hx))]; rfl
 | cons c r =>
  have hc : p c = false := by
   have := List.head_dropWhile_not p (l := a ++ c :: r) (by rw [hm]; simp)
   simpa [hm] using this
  have hne : ((c :: r).reverse.dropWhile p) ≠ [] := by
   rw [List.reverse_cons, List.dropWhile_append]
   split
   ·simp [hc]
   ·simp
  rw [if_neg (by simpa using hne), List.reverse_append, List.reverse_reverse, List.dropWhile_append, pB _ hall]
  simp only [List.isEmpty_nil, if_true]
  rw [List.reverse_cons, List.dropWhile_append]
  split
  ·simp [hc]
  ·simp [hc]
end Go.Abs
namespace Go.Proofs
open Go.Shelf Go.RowKit Go.Lib
set_option maxHeartbeats 1000000 in
/-- strings.SplitN into all -/
theorem yf {P : Program} {ρ : Ren} (L : Lays.n147 P ρ) (hi9 : (P.info? (ρ.t 9)).map (fun i => (i.zero, i.size, i.bytes)) = some (some (.string ByteArray.empty), 1, 16)) (s sep : ByteArray) (m : Int) (w : World)
  (hs : s.size < 4294967281) (hm : w.cell? ⟨(ρ.g 1), 0, none⟩ = some (.int .i64 m)) (h1 : 1 ≤ sep.size) :
  Calls P (ρ.f 147) #[.string s, .string sep, .int .i64 (-1)] w fun e w' =>
   e = .returned (.slice (some ⟨w.heap.size, 0, none⟩) (Lib.splitB sep 0 (Lib.countB s sep) s).length (Lib.countB s sep + 1)) ∧ w' = w.alloc (.cells (Lib.cellsOf (Lib.splitB sep 0 (Lib.countB s sep) s) (Lib.countB s sep + 1)) (ρ.t 9)) := by
 have hle := Lib.countB_le sep h1 s.size s (Nat.le_refl _)
 have c := Any.strings_genSplit { L with } hi9 s sep 0 (-1) (Lib.countB s sep + 1) m w hs hm h1 (Nat.zero_le _) (by decide) (by decide) (by rw [if_pos (by decide)]; omega)
 rw [Nat.add_sub_cancel] at c
 have t3 := L.t3; have t9 := L.t9; have t31 := L.t31
 have a3 := L.a3; have a9 := L.a9; have a31 := L.a31
 have z3 := L.z3; have v3 := L.v3; have z9 := L.z9; have v9 := L.v9; have z31 := L.z31; have v31 := L.v31
 have e221 : ∀ args w, (callFunc (ρ.f 221) args).run P w = .ok (.enter (ρ.f 221) args) w := enters_of L.f221 (by kernel_rfl) rfl
 go_enter L.f147, Body.n147_ntmps ρ
 go_wp2_with (go_at_fn (ρ.f 221); refine c.mono ?_; rintro e w' ⟨rfl, hw⟩; rw [hw])
 go_ret
 exact ⟨rfl, rfl⟩
end Go.Proofs
end
