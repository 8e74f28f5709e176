/- A part of the proofs of the statements: V5, V6, V7, V8, V9, V10, V11, V12, X7, X8, X9, UY, X10, X11, X12, RSpec15, X13, X14, RSpec16. -/
import Derived.Test.YtpdlhpamcaocgaaGreatDoorP08
set_option linter.all false
section
namespace Go.Abs
open Go
def e7 : aI := { np := 1, ns := 3, res := [⟨1, none⟩], rsh := [[.a]], body := (.seq (rg [gm (cs [])] [(1, 0)]) (.seq (.seq (rg [gm s0, gc l0, gf 0 l1, gd l2, gl l3, gn (bA l4 (i6 0))] [(2, 5)]) (.cond s2 (.seq (rg [gm (cs [])] [(1, 0)]) .ret) .skip)) (.seq (rg [gm s0, gc l0, gf 0 l1, gd l2, ga 1 l3 (i6 0), gd l4, gm l5] [(1, 6)]) .ret))) }
theorem w946 {Γ : Ctx} (hm : (Γ.at 0).bN)  (w : List aq) (es : List D) (b : Bool)   : bo (Γ.at 0) e7.body (eC e7 (.str (bV w)) : Ex → List aN → St → Prop) (bF e7 [.ref 3 [dS w (.sl 5 es) b] 0 0]) ⟨0, []⟩ := by
 show bo _ _ _ [⟨true, .ref 3 [dS w (.sl 5 es) b] 0 0⟩, .un, .un] ⟨0, []⟩
 refine aw ?_
 refine ae ?_
 refine ai [(1, ⟨_, .str _⟩)] ?_
 iterate 3 refine ae ?_
 refine ya ?_
 refine ez ?_
 refine bH (v := .sl 1 (w.map D.str)) ?_
 refine aC fun u0 => ?_; specialize u0 rfl rfl
 refine aQ ?_
 refine ai [(2, ⟨_, .bool _⟩)] ?_
 refine ak (fun hc0 => ?_) (fun hc0 => ?_)
 ·try simp only [au] at hc0
  iterate 3 refine ae ?_
  refine ai [(1, ⟨_, .str _⟩)] ?_
  refine ae ?_
  refine aB (congrArg D.str ?_)
  have : w = [] := List.length_eq_zero_iff.1 (by omega)
  subst this; rfl
 ·try simp only [au] at hc0
  iterate 3 refine ae ?_
  refine ya ?_
  refine ez ?_
  refine bH (v := .sl 1 (w.map D.str)) ?_
  refine aP 0 ?_
  first | refine aS (v := (.str _)) ?_ | refine bH (v := (.str _)) ?_
  refine ae ?_
  refine ai [(1, ⟨_, .str _⟩)] ?_
  refine ae ?_
  refine aB (congrArg D.str ?_)
  match w, hc0 with
  | [], h => exact absurd rfl h
  | x :: r, _ => rfl
def EO (Γ : Ctx) : Prop := ∀ (w : List aq) (es : List D) (b : Bool), Γ.pre 946 [.ref 3 [dS w (.sl 5 es) b] 0 0] ∧ Γ.val 946 [.ref 3 [dS w (.sl 5 es) b] 0 0] = .str (bV w)
def eJ : aI := { np := 1, ns := 4, res := [⟨1, none⟩], rsh := [[.a]], body := (.seq (rg [gm (cs [])] [(1, 0)]) (.seq (rg [gm s0, gx 946 [l0] [[.pt [.sl 1 [.a], .sl 5 [.a, .a, .a, .a, .a], .a]]], gm l1] [(2, 2)]) (.seq (.seq (rg [gm s2, gn (bA l0 (cs []))] [(3, 1)]) (.cond s3 (.seq (rg [gm s0, gc l0, gf 2 l1, gt 1 l2 (cb true)] []) (.seq (rg [gm (cs [])] [(1, 0)]) .ret)) .skip)) (.seq (rg [gm s0, gm s0, gc l1, gf 0 l2, gd l3, gn (.slA 1 l4 (some (i6 1)) none), gc l0, gf 0 l6, gt 1 l7 l5] []) (.seq (rg [gm s2, gm l0] [(1, 1)]) .ret))))) }
theorem w947 {Γ : Ctx} (hm : (Γ.at 2).bN) (w : List aq) (nd : List Nd) (b : Bool) (h946 : EO (Γ.at 2))  : bo (Γ.at 2) eJ.body (po eJ (D7 3 dS nd (fun o => o = ⟨0, aT w, nd, b9 w b⟩) (fun _ => .str (bV w))) : Ex → List aN → St → Prop) (bF eJ [.ptr 0 3 0 0]) ⟨2, [(0, .buf 3 [dS w (.own 1 5 0 nd.length) b]), (1, .buf 5 (nd.map Nd.D))]⟩ := by
 show bo _ _ _ [⟨true, .ptr 0 3 0 0⟩, .un, .un, .un] ⟨2, [(0, .buf 3 [dS w (.own 1 5 0 nd.length) b]), (1, .buf 5 (nd.map Nd.D))]⟩
 refine aw ?_
 refine ae ?_
 refine ai [(1, ⟨_, .str _⟩)] ?_
 iterate 2 refine ae ?_
 refine ay (hc := h946 w _ b) (hp := fun _ => Bm ah ah) ?_
 refine ae ?_
 refine ai [(2, ⟨_, .str _⟩)] ?_
 iterate 3 refine ae ?_
 refine cH ?_
 refine ai [(3, ⟨_, .bool _⟩)] ?_
 refine ak (fun hc0 => ?_) (fun hc0 => ?_)
 ·try simp only [au] at hc0
  iterate 3 refine ae ?_
  refine cz ?_
  refine ae ?_
  refine aM (dS w (.own 1 5 0 nd.length) true) (he := by exact rfl) ?_
  refine ai [] ?_
  iterate 3 refine ae ?_
  refine ai [(1, ⟨_, .str _⟩)] ?_
  refine ae ?_
  refine eh trivial jv (Eq.trans ah (congrArg D.str ?_)) ah ⟨⟨0, aT w, nd, b9 w b⟩, rfl, rfl, by simp only [aT, b9, hc0, if_true]; rfl, rfl⟩
  exact hc0.symm
 ·try simp only [au] at hc0
  iterate 4 refine ae ?_
  refine cz ?_
  refine ae ?_
  refine aj (v := .sl 1 (w.map D.str)) ?_
  refine wL 1 (hb := fun _ => by have := B3 hc0; omega) ?_
  refine cz ?_
  refine ae ?_
  refine aM (dS (w.drop 1) (.own 1 5 0 nd.length) b) (he := by exact rfl) ?_
  refine ai [] ?_
  iterate 3 refine ae ?_
  refine ai [(1, ⟨_, .str _⟩)] ?_
  refine ae ?_
  refine eh trivial jv (Eq.trans ah (congrArg D.str ?_)) ah ⟨⟨0, aT w, nd, b9 w b⟩, rfl, rfl, by simp only [aT, b9, hc0, if_false]; rfl, rfl⟩
  rfl
def zi (Γ : Ctx) : Prop := ∀ (w : List aq) (nd : List Nd) (b : Bool), HB Γ 3 dS 947 [] w nd b (fun o => o = ⟨0, aT w, nd, b9 w b⟩) (fun _ => .str (bV w))
def fe : aI := { np := 2, ns := 4, res := [⟨2, none⟩], rsh := [[.a]], body := (.seq (rg [gb 5 s1, gm (i6 0)] [(3, 0), (2, 1)]) (.seq (rt [gm s0, gm s0, gc l1, gf 1 l2, gd l3, gk 5 true s3, gn (.bsl 5 (.agg [.int .i64 0, .int .i64 0, .int .i64 0, .int .i64 0, .str []]) 1 [(0, l5)]), gn (.app 5 l4 l6), gc l0, gf 1 l8, gt 1 l9 l7] []) (.seq (rg [gm s0, gc l0, gf 1 l1, gd l2, gl l3, gn (lP l4 (i6 1)), gm l5] [(2, 6)]) .ret))) }
theorem w948 {Γ : Ctx} (hm : (Γ.at 2).bN) (x : Nd) (w : List aq) (nd : List Nd) (b : Bool)  (hp0 : nd.length ≤ 2000) : bo (Γ.at 2) fe.body (po fe (xl 3 dS (fun o => o = ⟨(nd.length : Nat), w, nd ++ [x], b⟩) Va) : Ex → List aN → St → Prop) (bF fe [.ptr 0 3 0 0, Nd.D x]) ⟨2, [(0, .buf 3 [dS w (.own 1 5 0 nd.length) b]), (1, .buf 5 (nd.map Nd.D))]⟩ := by
 show bo _ _ _ [⟨true, .ptr 0 3 0 0⟩, ⟨true, Nd.D x⟩, .un, .un] ⟨2, [(0, .buf 3 [dS w (.own 1 5 0 nd.length) b]), (1, .buf 5 (nd.map Nd.D))]⟩
 refine aw ?_
 refine aZ ?_
 refine ae ?_
 refine ai [(2, ⟨_, .int _ _⟩), (3, ⟨_, _⟩)] ?_
 iterate 3 refine ae ?_
 refine cz ?_
 refine ae ?_
 refine aj (v := .own 1 5 0 nd.length) ?_
 refine bG (d := Nd.D x) ?_
 refine dK [Nd.D x] ?_
 refine iu (q := Nd.D) (xs := nd) (e := x) ?_
 refine cz ?_
 refine ae ?_
 refine aM (dS w (.own 11 5 0 (nd ++ [x]).length) b) (he := by exact rfl) ?_
 refine ai [] ?_
 iterate 2 refine ae ?_
 refine cz ?_
 refine ae ?_
 refine aj (v := .own 11 5 0 (nd ++ [x]).length) ?_
 refine x6 fun u0 => ?_; specialize u0 rfl rfl
 refine cA ?_
 refine ae ?_
 refine ai [(2, ⟨_, .int _ _⟩)] ?_
 refine ae ?_
 refine eh trivial jv (Eq.trans ah (congrArg (D.int .i64) ?_)) ah ⟨⟨(nd.length : Nat), w, nd ++ [x], b⟩, 11, by decide, rfl, rfl, rfl, rfl⟩
 simp
def AA (Γ : Ctx) : Prop := ∀ (x : Nd) (w : List aq) (nd : List Nd) (b : Bool), nd.length ≤ 2000 → pk Γ 3 dS 948 [Nd.D x] w nd b (fun o => o = ⟨(nd.length : Nat), w, nd ++ [x], b⟩) Va
end Go.Abs
end
section
namespace Go.Abs
open Go
def fU : aI := { np := 2, ns := 14, res := [⟨2, none⟩], rsh := [[.a]], body := (.seq (rg [gm (i6 0)] [(2, 0)]) (.seq (rg [gm s0, gn (.callM 947 [l0]), gm s0, gn (.callM 947 [l2]), gm l1, gm l3] [(8, 4), (9, 5)]) (.seq (.seq (rg [gx 950 [] [], gl l0, gm (i6 0)] [(6, 0), (4, 1), (3, 2)]) (.block 0 (.loop (.seq (rg [gn (bQ s3 s4)] [(5, 0)]) (.seq (.cond s5 .skip (.exit 0)) (.seq (.block 1 (.seq (rg [gm s3, ga 1 s6 s3, gd l1, gm l0, gm l2] [(11, 3), (7, 4)]) (.seq (.seq (rg [gm s7, gm s1, gn (cN l0 l1), gm l2, ⟨.mv s0, some (3, false)⟩, ⟨.nilck l4, some (3, false)⟩, ⟨.fa 2 l5, some (3, false)⟩, ⟨.ld 1 false l6, some (3, false)⟩, gn (.pick l3 (cb true) l7), gm l8, ⟨.mv s8, some (9, false)⟩, ⟨.bin .neq l10 (cs [61]), some (9, false)⟩, ⟨.mv kl, some (9, false)⟩, ⟨.mv s8, some (12, true)⟩, ⟨.bin .neq nB (cs [33, 61]), some (12, true)⟩, ⟨.pick lJ nW (cb false), some (9, false)⟩, gn (.pick l9 (cb true) oN), gm qm, ⟨.mv s9, some (17, false)⟩, ⟨.call 349 [rU] [[.a]], some (17, false)⟩, ⟨.un .not tK, some (17, false)⟩, gn (.pick rT (cb true) vz)] [(10, 21)]) (.cond kF (.exit 1) .skip)) (.seq (rg [gm s0, gm mV, gm s9, gn (.build [.int .i64 0, .int .i64 0, .int .i64 0, .int .i64 0, .str []] [(0, 1, (i6 1)), (3, 1, l1), (4, 1, l2)]), gn (.callM 948 [l0, l3]), gm l4] [(13, 5)]) (.seq (.seq (rg [gm s8, gn (bA l0 (cs [33, 61]))] [(12, 1)]) (.cond jV (rg [gm s0, gm ri, gn (.build [.int .i64 0, .int .i64 0, .int .i64 0, .int .i64 0, .str []] [(0, 1, (i6 2)), (1, 1, l1)]), gn (.callM 948 [l0, l2]), gm l3] [(13, 4)]) .skip)) (.seq (rg [gm ri, gm l0] [(2, 1)]) .ret)))))) (rg [gn (bh s3 (i6 1)), gm l0] [(3, 1)]))))))) (.seq (rg [gm s0, gc l0, gf 2 l1, gt 1 l2 (cb true)] []) (.seq (rg [gm (i6 0)] [(2, 0)]) .ret))))) }
theorem Ib {Γ : Ctx} (hm : (Γ.at 2).bN) (k : aq) (w : List aq) (nd : List Nd) (b : Bool) (h349 : xh (Γ.at 2)) (h947 : zi (Γ.at 2)) (h948 : AA (Γ.at 2)) (h950 : EP (Γ.at 2)) (hp0 : nd.length + 2 * w.length ≤ 1000) : bo (Γ.at 2) fU.body (po fU (xl 3 dS (dI (iY b k w nd) w nd) Va) : Ex → List aN → St → Prop) (bF fU [.ptr 0 3 0 0, .str k]) ⟨2, [(0, .buf 3 [dS w (.own 1 5 0 nd.length) b]), (1, .buf 5 (nd.map Nd.D))]⟩ := by
 show bo _ _ _ [⟨true, .ptr 0 3 0 0⟩, ⟨true, .str k⟩, .un, .un, .un, .un, .un, .un, .un, .un, .un, .un, .un, .un] ⟨2, [(0, .buf 3 [dS w (.own 1 5 0 nd.length) b]), (1, .buf 5 (nd.map Nd.D))]⟩
 refine aw ?_
 refine ae ?_
 refine ai [(2, ⟨_, .int _ _⟩)] ?_
 iterate 2 refine ae ?_
 refine cF (nx' := 3) (v := .str (bV w)) (m' := [(0, .buf 3 [dS (aT w) (.own 1 5 0 nd.length) (b9 w b)]), (1, .buf 5 (nd.map Nd.D))]) (hc := fun K' hK => h947 w nd b _ 0 1 _ K' ah ah (by simp only [List.length_cons, List.length_nil]; omega) (by simp only [List.length_cons, List.length_nil]; omega) (fun o ho => by subst ho; exact hK)) (hn := by decide) ?_
 refine ae ?_
 refine cF (nx' := 3) (v := .str (bV (aT w))) (m' := [(0, .buf 3 [dS (aT (aT w)) (.own 1 5 0 nd.length) (b9 (aT w) (b9 w b))]), (1, .buf 5 (nd.map Nd.D))]) (hc := fun K' hK => h947 (aT w) nd (b9 w b) _ 0 1 _ K' ah ah (by simp only [List.length_cons, List.length_nil]; omega) (by simp only [List.length_cons, List.length_nil]; omega) (fun o ho => by subst ho; exact hK)) (hn := by decide) ?_
 iterate 2 refine ae ?_
 refine ai [(8, ⟨_, .str _⟩), (9, ⟨_, .str _⟩)] ?_
 iterate 2 refine ae ?_
 refine ay (hc := h950 ) ?_
 refine aC fun u0 => ?_; specialize u0 rfl rfl
 refine ae ?_
 refine ai [(3, ⟨_, .int _ _⟩), (4, ⟨_, .int _ _⟩), (6, ⟨_, .sl _ _⟩)] ?_
 refine bz hm (ι := Nat) (fun i => [⟨true, .ptr 0 3 0 0⟩, ⟨true, .str k⟩, .un, ⟨true, .int .i64 (i : Nat)⟩, ⟨true, .int .i64 3⟩, .un, ⟨true, .sl 1 (lD.map D.str)⟩, .un, ⟨true, .str (bV w)⟩, ⟨true, .str (bV (aT w))⟩, .un, .un, .un, .un]) (fun i => [(0, .buf 3 [dS (aT (aT w)) (.own 1 5 0 nd.length) (b9 (aT w) (b9 w b))]), (1, .buf 5 (nd.map Nd.D))]) 12 (fun i => i ≤ 3 ∧ ∀ j, j < i → xK j k (bV w) (bV (aT w)) (b9 (aT w) (b9 w b)) = false) (fun i => 3 - i) 0 ⟨by omega, fun j hj => by omega⟩ (az.to [] ah ah aX (by (first | refine aV.fR ah ah eK ?_ | refine aV.pH ah ah ah ?_ | refine aV.qj ah ah ah ah ?_); (first | refine aV.fR ah ah eK ?_ | refine aV.pH ah ah ah ?_ | refine aV.qj ah ah ah ah ?_); exact aV.nil)) ?_
 rintro i ⟨hi, hr⟩
 refine ae ?_
 refine aW ?_
 refine ai [(5, ⟨_, .bool _⟩)] ?_
 refine ak (fun hc0 => ?_) (fun hc0 => ?_)
 ·try simp only [au] at hc0
  refine ae ?_
  refine ax ?_ hm
  iterate 2 refine ae ?_
  refine aP i (hb := fun _ => by show _ < 3; omega) ?_
  refine aS (q := D.str) (xs := lD) (i := i) (k := 1) (o := 0) (hi := fun _ => by show i < 3; omega) (v := (.str lD[i]!)) ?_
  iterate 2 refine ae ?_
  refine ai [(7, ⟨_, .str _⟩), (11, ⟨_, .int _ _⟩)] ?_
  iterate 4 refine ae ?_
  refine cn ?_
  iterate 2 refine ae ?_
  refine cz ?_
  refine ae ?_
  refine aj (v := (.bool _)) ?_
  refine bY ?_
  iterate 2 refine ae ?_
  refine cn ?_
  iterate 2 refine ae ?_
  refine cn ?_
  refine bK ?_
  refine bY ?_
  iterate 2 refine ae ?_
  refine ay (hc := h349 _) ?_
  refine ct ?_
  refine bY ?_
  refine ai [(10, ⟨_, .bool _⟩)] ?_
  refine ak (fun hc1 => ?_) (fun hc1 => ?_)
  ·have hno : xK i k (bV w) (bV (aT w)) (b9 (aT w) (b9 w b)) = false := congrArg (!·) hc1
   refine ae ?_
   refine BQ.out ?_
   refine ae ?_
   refine aF ?_
   refine ae ?_
   refine bL [(3, ⟨_, .int _ _⟩)] ?_
   refine ae ?_
   exact ⟨i + 1, ⟨by omega, fun j hj => by rcases Nat.lt_or_ge j i with h | h; exact hr j h; obtain rfl : j = i := (by omega); exact hno⟩, by omega, (az.to [] ah ah aX (by (first | refine aV.fR ah ah eK ?_ | refine aV.pH ah ah ah ?_ | refine aV.qj ah ah ah ah ?_); (first | refine aV.fR ah ah eK ?_ | refine aV.pH ah ah ah ?_ | refine aV.qj ah ah ah ah ?_); exact aV.nil))⟩
  ·have hyes : xK i k (bV w) (bV (aT w)) (b9 (aT w) (b9 w b)) = true := congrArg (!·) hc1
   obtain ⟨ha, hk, hb2⟩ := A2 (nd := nd) (w := w) (b := b) (show i < 3 by omega) hyes
   have hap := yu w nd
   have hl1 := hap.1
   iterate 5 refine ae ?_
   refine b6 (Nd.D ⟨1, 0, 0, (i : Nat), (bV (aT w))⟩) ?_
   refine cF (nx' := 41) (v := .int .i64 (nd.length : Nat)) (m' := [(44, .buf 5 ((nd ++ [(⟨1, 0, 0, (i : Nat), (bV (aT w))⟩ : Nd)]).map Nd.D)), (0, .buf 3 [dS (aT (aT w)) (.own 44 5 0 (nd ++ [(⟨1, 0, 0, (i : Nat), (bV (aT w))⟩ : Nd)]).length) (b9 (aT w) (b9 w b))])]) (hc := fun K' hK => h948 ⟨1, 0, 0, (i : Nat), (bV (aT w))⟩ (aT (aT w)) nd (b9 (aT w) (b9 w b)) (by omega) _ 0 1 _ K' ah ah (by simp only [List.length_cons, List.length_nil]; omega) (by simp only [List.length_cons, List.length_nil]; omega) (fun o ho => by subst ho; exact hK)) (hn := by decide) ?_
   refine ae ?_
   refine ai [(13, ⟨_, .int _ _⟩)] ?_
   iterate 3 refine ae ?_
   refine cH ?_
   refine ai [(12, ⟨_, .bool _⟩)] ?_
   refine ak (fun hc2 => ?_) (fun hc2 => ?_)
   ·simp only [decide_eq_true_eq] at hc2
    have hat : iY b k w nd = some ((((nd ++ [(⟨1, 0, 0, (i : Nat), (bV (aT w))⟩ : Nd)]).length : Nat) : Int), (aT (aT w)), ((nd ++ [(⟨1, 0, 0, (i : Nat), (bV (aT w))⟩ : Nd)]) ++ [(⟨2, (nd.length : Nat), 0, 0, []⟩ : Nd)])) := by rw [ha]; simp only [vK, hk, if_pos hc2]
    iterate 3 refine ae ?_
    refine b6 (Nd.D ⟨2, (nd.length : Nat), 0, 0, []⟩) ?_
    refine cF (nx' := 50) (v := .int .i64 ((nd ++ [(⟨1, 0, 0, (i : Nat), (bV (aT w))⟩ : Nd)]).length : Nat)) (m' := [(52, .buf 5 (((nd ++ [(⟨1, 0, 0, (i : Nat), (bV (aT w))⟩ : Nd)]) ++ [(⟨2, (nd.length : Nat), 0, 0, []⟩ : Nd)]).map Nd.D)), (0, .buf 3 [dS (aT (aT w)) (.own 52 5 0 ((nd ++ [(⟨1, 0, 0, (i : Nat), (bV (aT w))⟩ : Nd)]) ++ [(⟨2, (nd.length : Nat), 0, 0, []⟩ : Nd)]).length) (b9 (aT w) (b9 w b))])]) (hc := fun K' hK => h948 ⟨2, (nd.length : Nat), 0, 0, []⟩ (aT (aT w)) (nd ++ [(⟨1, 0, 0, (i : Nat), (bV (aT w))⟩ : Nd)]) (b9 (aT w) (b9 w b)) (by simp; omega) _ 0 44 _ K' ah ah (by simp only [List.length_cons, List.length_nil]; omega) (by simp only [List.length_cons, List.length_nil]; omega) (fun o ho => by subst ho; exact hK)) (hn := by decide) ?_
    refine ae ?_
    refine ai [(13, ⟨_, .int _ _⟩)] ?_
    iterate 3 refine ae ?_
    refine ai [(2, ⟨_, .int _ _⟩)] ?_
    iterate 3 refine ae ?_
    refine eh trivial jv (Eq.trans ah (congrArg (D.int .i64) ?_)) ah ⟨⟨((nd ++ [(⟨1, 0, 0, (i : Nat), (bV (aT w))⟩ : Nd)]).length : Nat), (aT (aT w)), ((nd ++ [(⟨1, 0, 0, (i : Nat), (bV (aT w))⟩ : Nd)]) ++ [(⟨2, (nd.length : Nat), 0, 0, []⟩ : Nd)]), (b9 (aT w) (b9 w b))⟩, 52, by decide, ⟨.inl ⟨hat, hb2⟩, ru hat⟩, rfl, rfl, rfl⟩
    rfl
   ·simp only [decide_eq_false_iff_not] at hc2
    have hat : iY b k w nd = some (((nd.length : Nat) : Int), (aT (aT w)), (nd ++ [(⟨1, 0, 0, (i : Nat), (bV (aT w))⟩ : Nd)])) := by rw [ha]; simp only [vK, hk, if_neg hc2]
    iterate 4 refine ae ?_
    refine ai [(2, ⟨_, .int _ _⟩)] ?_
    iterate 3 refine ae ?_
    refine eh trivial jv (Eq.trans ah (congrArg (D.int .i64) ?_)) ah ⟨⟨(nd.length : Nat), (aT (aT w)), (nd ++ [(⟨1, 0, 0, (i : Nat), (bV (aT w))⟩ : Nd)]), (b9 (aT w) (b9 w b))⟩, 44, by decide, ⟨.inl ⟨hat, hb2⟩, ru hat⟩, rfl, rfl, rfl⟩
    rfl
 ·try simp only [au] at hc0
  iterate 2 refine ae ?_
  have hn : iY b k w nd = none := C6 (fun j hj => hr j (by omega))
  refine fJ (az.to (env' := [⟨true, .ptr 0 3 0 0⟩, .un, .un, .un, .un, .un, .un, .un, .un, .un, .un, .un, .un, .un]) (c := 90) (nx' := 90) (m' := [(0, .buf 3 [dS (aT (aT w)) (.own 2 5 0 nd.length) (b9 (aT w) (b9 w b))]), (2, .buf 5 (nd.map Nd.D))]) [(1, 2)] rfl ah aX (by refine aV.pH ah ah ah ?_; refine aV.nl 1 ah ah rfl (by exact bP (fun _ => rfl) _) ?_; exact aV.nil)) ?_
  iterate 2 refine ae ?_
  refine cz ?_
  refine ae ?_
  refine aM (dS (aT (aT w)) (.own 2 5 0 nd.length) true) (he := by exact rfl) ?_
  refine ai [] ?_
  iterate 2 refine ae ?_
  refine ai [(2, ⟨_, .int _ _⟩)] ?_
  refine ae ?_
  refine eh trivial jv (Eq.trans ah (congrArg (D.int .i64) ?_)) ah ⟨⟨0, (aT (aT w)), nd, true⟩, 2, by decide, ⟨.inr ⟨hn, rfl⟩, yu w nd⟩, rfl, rfl, rfl⟩
  rfl
def Au (Γ : Ctx) : Prop := ∀ (k : aq) (w : List aq) (nd : List Nd) (b : Bool), nd.length + 2 * w.length ≤ 1000 → pk Γ 3 dS 1031 [.str k] w nd b (dI (iY b k w nd) w nd) Va
end Go.Abs
end
section
namespace Go.Abs
open Go
def C808 (Γ : Ctx) : Prop := (∀ (w : List aq) (nd : List Nd), nd.length + 2 * w.length ≤ 1000 → pk Γ 3 dS 808 [.str xa, .int .i64 4, .fn 809 []] w nd false (dI (jb w nd) w nd) Va) ∧ (∀ (w : List aq) (nd : List Nd), nd.length + 2 * w.length ≤ 1000 → pk Γ 3 dS 808 [.str qy, .int .i64 3, .fn 949 []] w nd false (dI (ov w nd) w nd) Va)
def Ay (Γ : Ctx) (u : Nat) : Prop := (∀ (w : List aq) (nd : List Nd), nd.length + 2 * w.length ≤ 1000 → 6 * w.length + 3 < u → pk Γ 3 dS 808 [.str xa, .int .i64 4, .fn 809 []] w nd false (dI (jb w nd) w nd) Va) ∧ (∀ (w : List aq) (nd : List Nd), nd.length + 2 * w.length ≤ 1000 → 6 * w.length + 1 < u → pk Γ 3 dS 808 [.str qy, .int .i64 3, .fn 949 []] w nd false (dI (ov w nd) w nd) Va)
def EI (Γ : Ctx) : Prop := ∀ (w : List aq) (nd : List Nd), nd.length + 2 * w.length ≤ 1000 → pk Γ 3 dS 660 [] w nd false (dI (jb w nd) w nd) Va
def DZ (Γ : Ctx) (u : Nat) : Prop := ∀ (w : List aq) (nd : List Nd), nd.length + 2 * w.length ≤ 1000 → 6 * w.length + 4 < u → pk Γ 3 dS 660 [] w nd false (dI (jb w nd) w nd) Va
def C809 (Γ : Ctx) : Prop := ∀ (w : List aq) (nd : List Nd), nd.length + 2 * w.length ≤ 1000 → pk Γ 3 dS 809 [] w nd false (dI (ov w nd) w nd) Va
def GW (Γ : Ctx) (u : Nat) : Prop := ∀ (w : List aq) (nd : List Nd), nd.length + 2 * w.length ≤ 1000 → 6 * w.length + 2 < u → pk Γ 3 dS 809 [] w nd false (dI (ov w nd) w nd) Va
def C949 (Γ : Ctx) : Prop := ∀ (w : List aq) (nd : List Nd), nd.length + 2 * w.length ≤ 1000 → pk Γ 3 dS 949 [] w nd false (dI (kR w nd) w nd) Va
def D1 (Γ : Ctx) (u : Nat) : Prop := ∀ (w : List aq) (nd : List Nd), nd.length + 2 * w.length ≤ 1000 → 6 * w.length + 0 < u → pk Γ 3 dS 949 [] w nd false (dI (kR w nd) w nd) Va
def eg : aI := { np := 4, ns := 8, res := [⟨4, none⟩], rsh := [[.a]], body := (.seq (rg [gm (i6 0)] [(4, 0)]) (.seq (rg [gm s3, gm s0, gn (.callvM l0 [l1]), gm l2] [(6, 3)]) (.seq (.block 0 (.loop (.seq (.seq (rg [gm s0, gc l0, gf 2 l1, gd l2, gn (.un .not l3), gm l4, ⟨.mv s0, some (5, true)⟩, ⟨.call 946 [l6] [[.pt [.sl 1 [.a], .sl 5 [.a, .a, .a, .a, .a], .a]]], some (5, true)⟩, ⟨.mv s1, some (5, true)⟩, ⟨.bin .eql l7 l8, some (5, true)⟩, gn (.pick l5 l9 (cb false))] [(5, 10)]) (.cond s5 .skip (.exit 0))) (.block 1 (.seq (rg [gm s0, gn (.callM 947 [l0])] []) (.seq (rg [gm s3, gm s0, gn (.callvM l0 [l1]), gm l2] [(7, 3)]) (rg [gm s0, gm s2, gm s6, gm s7, gn (.build [.int .i64 0, .int .i64 0, .int .i64 0, .int .i64 0, .str []] [(0, 1, l1), (1, 1, l2), (2, 1, l3)]), gn (.callM 948 [l0, l4]), gm l5] [(6, 6)]))))))) (.seq (rg [gm s6, gm l0] [(4, 1)]) .ret)))) }
theorem take_cons {Γ : Ctx} (h : zi Γ) {x : aq} (hx : x ≠ []) (r : List aq) (nd : List Nd) (b : Bool) : HB Γ 3 dS 947 [] (x :: r) nd b (fun o => o = ⟨0, r, nd, b⟩) (fun _ => .str x) := by
 have := h (x :: r) nd b
 rw [fD hx, fC hx] at this
 exact this
theorem zp {bad : Bool} {w : List aq} {wd : aq} (h : (!bad && decide (bV w = wd)) = false) : bad = true ∨ w.head? ≠ some wd := by
 cases bad with
 | true => exact .inl rfl
 | false =>
  right
  simp only [Bool.not_false, Bool.true_and, decide_eq_false_iff_not] at h
  match w, h with
  | [], _ => simp
  | x :: r, h => intro e; exact h (show x = wd by simpa using e)
theorem Ig {Γ : Ctx} (hm : (Γ.at 2).bN) (part : List aq → List Nd → PR) (pn : Nat) (wd : aq) (op : Int) (w : List aq) (nd : List Nd) (h946 : EO (Γ.at 2)) (h947 : zi (Γ.at 2)) (h948 : AA (Γ.at 2)) (hp0 : nd.length + 2 * w.length ≤ 1000) (hp1 : qA part) (hp2 : pn < 1000000) (hp3 : wd ≠ []) (hp4 : ∀ (w2 : List aq) (nd2 : List Nd), w2.length ≤ w.length → nd2.length + 2 * w2.length ≤ 1000 → pk (Γ.at 2) 3 dS pn [] w2 nd2 false (dI (part w2 nd2) w2 nd2) Va) : bo (Γ.at 2) eg.body (po eg (xl 3 dS (dI (eN part wd op w nd) w nd) Va) : Ex → List aN → St → Prop) (bF eg [.ptr 0 3 0 0, .str wd, .int .i64 op, .fn pn []]) ⟨2, [(0, .buf 3 [dS w (.own 1 5 0 nd.length) false]), (1, .buf 5 (nd.map Nd.D))]⟩ := by
 show bo _ _ _ [⟨true, .ptr 0 3 0 0⟩, ⟨true, .str wd⟩, ⟨true, .int .i64 op⟩, ⟨true, .fn pn []⟩, .un, .un, .un, .un] ⟨2, [(0, .buf 3 [dS w (.own 1 5 0 nd.length) false]), (1, .buf 5 (nd.map Nd.D))]⟩
 have hpn : uG pn = pn := if_pos hp2
 have hpa : ∀ as : List D, sZ pn as [] = as := fun as => by rw [sZ, if_pos hp2, List.append_nil]
 refine aw ?_
 refine ae ?_
 refine ai [(4, ⟨_, .int _ _⟩)] ?_
 iterate 3 refine ae ?_
 refine iU (as := [.ptr 0 3 0 0]) (dI (part w nd) w nd) Va 4 (fun o => [(5, .buf 5 (o.nd.map Nd.D)), (0, .buf 3 [dS o.w (.own 5 5 0 o.nd.length) o.bad])]) (fun o0 ho0 => ?_) (hc := fun K' hK => by rw [hpn]; exact hp4 w nd (Nat.le_refl _) (by omega) _ 0 1 _ K' ah ah (by simp only [List.length_cons, List.length_nil]; omega) (by simp only [List.length_cons, List.length_nil]; omega) (fun o ho => hK o ho)) (hn := by decide) (ha := hpa _)
 refine ae ?_
 refine ai [(6, ⟨_, .int _ _⟩)] ?_
 refine bz hm (ι := PO) (fun o => [⟨true, .ptr 0 3 0 0⟩, ⟨true, .str wd⟩, ⟨true, .int .i64 op⟩, ⟨true, .fn pn []⟩, .un, .un, ⟨true, .int .i64 o.a⟩, .un]) (fun o => [(0, .buf 3 [dS o.w (.own 2 5 0 o.nd.length) o.bad]), (2, .buf 5 (o.nd.map Nd.D))]) 8 (fun o => Ci part wd op (eN part wd op w nd) w nd o) (fun o => o.w.length) o0 (Ci.first ho0) (az.to [(5, 2)] ah ah aX (by (first | refine aV.fR ah ah eK ?_ | refine aV.pH ah ah ah ?_ | refine aV.qj ah ah ah ah ?_); refine aV.nl 5 ah ah ah eK ?_; exact aV.nil)) ?_
 rintro ⟨a, w1, nd1, bad⟩ hI
 dsimp only
 have hpb := hI.2
 have hl1 := hpb.1
 have hl2 := hpb.2.1
 dsimp only at hl1 hl2
 iterate 3 refine ae ?_
 refine cz ?_
 refine ae ?_
 refine aj (v := (.bool _)) ?_
 refine ct ?_
 iterate 2 refine ae ?_
 refine jN (hc := fun _ => h946 w1 _ bad) (hp := fun _ => Bm ah ah) ?_
 refine ae ?_
 refine cH ?_
 refine bK ?_
 refine ai [(5, ⟨_, .bool _⟩)] ?_
 refine ak (fun hc0 => ?_) (fun hc0 => ?_)
 ·simp only [Bool.and_eq_true, Bool.not_eq_true', decide_eq_true_eq] at hc0
  obtain ⟨rfl, hts⟩ := hc0
  obtain ⟨r, rfl⟩ := mY hp3 hts
  simp only [List.length_cons] at hl1 hl2
  refine ae ?_
  refine cW ?_ hm
  iterate 2 refine ae ?_
  refine cF (nx' := 19) (v := .str wd) (m' := [(0, .buf 3 [dS r (.own 2 5 0 nd1.length) false]), (2, .buf 5 (nd1.map Nd.D))]) (hc := fun K' hK => take_cons h947 hp3 r nd1 false _ 0 2 _ K' ah ah (by simp only [List.length_cons, List.length_nil]; omega) (by simp only [List.length_cons, List.length_nil]; omega) (fun o ho => by subst ho; exact hK)) (hn := by decide) ?_
  refine ai [] ?_
  iterate 3 refine ae ?_
  refine iU (as := [.ptr 0 3 0 0]) (dI (part r nd1) r nd1) Va 22 (fun o => [(23, .buf 5 (o.nd.map Nd.D)), (0, .buf 3 [dS o.w (.own 23 5 0 o.nd.length) o.bad])]) (fun o2 ho2 => ?_) (hc := fun K' hK => by rw [hpn]; exact hp4 r nd1 (by omega) (by omega) _ 0 2 _ K' ah ah (by simp only [List.length_cons, List.length_nil]; omega) (by simp only [List.length_cons, List.length_nil]; omega) (fun o ho => hK o ho)) (hn := by decide) (ha := hpa _)
  have hl3 := ho2.2.2.1
  have hl4 := ho2.2.1
  refine ae ?_
  refine ai [(7, ⟨_, .int _ _⟩)] ?_
  iterate 5 refine ae ?_
  refine b6 (Nd.D (⟨op, a, o2.a, 0, []⟩ : Nd)) ?_
  refine cF (nx' := 27) (v := .int .i64 (o2.nd.length : Nat)) (m' := [(31, .buf 5 ((o2.nd ++ [(⟨op, a, o2.a, 0, []⟩ : Nd)]).map Nd.D)), (0, .buf 3 [dS o2.w (.own 31 5 0 (o2.nd ++ [(⟨op, a, o2.a, 0, []⟩ : Nd)]).length) o2.bad])]) (hc := fun K' hK => h948 (⟨op, a, o2.a, 0, []⟩ : Nd) o2.w o2.nd o2.bad (by omega) _ 0 23 _ K' ah ah (by simp only [List.length_cons, List.length_nil]; omega) (by simp only [List.length_cons, List.length_nil]; omega) (fun o ho => by subst ho; exact hK)) (hn := by decide) ?_
  refine ae ?_
  refine bL [(6, ⟨_, .int _ _⟩)] ?_
  refine fK.normal ?_
  refine ae ?_
  exact ⟨⟨(o2.nd.length : Nat), o2.w, o2.nd ++ [(⟨op, a, o2.a, 0, []⟩ : Nd)], o2.bad⟩, Ci.next hp1 hI ho2, by dsimp only; simp only [List.length_cons]; omega, (az.to [(31, 2)] ah ah aX (by (first | refine aV.fR ah ah eK ?_ | refine aV.pH ah ah ah ?_ | refine aV.qj ah ah ah ah ?_); refine aV.nl 31 ah ah ah eK ?_; exact aV.nil))⟩
 ·have hx := zp hc0
  iterate 5 refine ae ?_
  refine ai [(4, ⟨_, .int _ _⟩)] ?_
  refine ae ?_
  refine eh trivial jv (Eq.trans ah (congrArg (D.int .i64) ?_)) ah ⟨⟨a, w1, nd1, bad⟩, 2, by decide, hI.last hx, rfl, rfl, rfl⟩
  rfl
def e8 : aI := { np := 1, ns := 2, res := [⟨1, none⟩], rsh := [[.a]], body := (.seq (rg [gm (i6 0)] [(1, 0)]) (.seq (rg [gm s0, gn (.callM 808 [l0, (cs [111, 114]), (i6 4), (.c (.fn 809 []))]), gm l1] [(1, 2)]) .ret)) }
theorem w660 {Γ : Ctx} (hm : (Γ.at 2).bN) (w : List aq) (nd : List Nd) (h808 : Ay (Γ.at 2) (6 * w.length + 4)) (hp0 : nd.length + 2 * w.length ≤ 1000) : bo (Γ.at 2) e8.body (po e8 (xl 3 dS (dI (jb w nd) w nd) Va) : Ex → List aN → St → Prop) (bF e8 [.ptr 0 3 0 0]) ⟨2, [(0, .buf 3 [dS w (.own 1 5 0 nd.length) false]), (1, .buf 5 (nd.map Nd.D))]⟩ := by
 show bo _ _ _ [⟨true, .ptr 0 3 0 0⟩, .un] ⟨2, [(0, .buf 3 [dS w (.own 1 5 0 nd.length) false]), (1, .buf 5 (nd.map Nd.D))]⟩
 refine aw ?_
 refine ae ?_
 refine ai [(1, ⟨_, .int _ _⟩)] ?_
 iterate 2 refine ae ?_
 refine kC (dI (jb w nd) w nd) Va 4 (fun o => [(4, .buf 5 (o.nd.map Nd.D)), (0, .buf 3 [dS o.w (.own 4 5 0 o.nd.length) o.bad])]) (fun o1 ho1 => ?_) (hc := fun K' hK => h808.1 w nd hp0 (by omega) _ 0 1 _ K' ah ah (by simp only [List.length_cons, List.length_nil]; omega) (by simp only [List.length_cons, List.length_nil]; omega) (fun o ho => hK o ho)) (hn := by decide)
 refine ae ?_
 refine ai [(1, ⟨_, .int _ _⟩)] ?_
 refine ae ?_
 refine eh trivial jv (Eq.trans ah (congrArg (D.int .i64) ?_)) ah ⟨o1, 4, by decide, ho1, rfl, rfl, rfl⟩
 rfl
def eI : aI := { np := 1, ns := 2, res := [⟨1, none⟩], rsh := [[.a]], body := (.seq (rg [gm (i6 0)] [(1, 0)]) (.seq (rg [gm s0, gn (.callM 808 [l0, (cs [97, 110, 100]), (i6 3), (.c (.fn 949 []))]), gm l1] [(1, 2)]) .ret)) }
theorem w809 {Γ : Ctx} (hm : (Γ.at 2).bN) (w : List aq) (nd : List Nd) (h808 : Ay (Γ.at 2) (6 * w.length + 2)) (hp0 : nd.length + 2 * w.length ≤ 1000) : bo (Γ.at 2) eI.body (po eI (xl 3 dS (dI (ov w nd) w nd) Va) : Ex → List aN → St → Prop) (bF eI [.ptr 0 3 0 0]) ⟨2, [(0, .buf 3 [dS w (.own 1 5 0 nd.length) false]), (1, .buf 5 (nd.map Nd.D))]⟩ := by
 show bo _ _ _ [⟨true, .ptr 0 3 0 0⟩, .un] ⟨2, [(0, .buf 3 [dS w (.own 1 5 0 nd.length) false]), (1, .buf 5 (nd.map Nd.D))]⟩
 refine aw ?_
 refine ae ?_
 refine ai [(1, ⟨_, .int _ _⟩)] ?_
 iterate 2 refine ae ?_
 refine kC (dI (ov w nd) w nd) Va 4 (fun o => [(4, .buf 5 (o.nd.map Nd.D)), (0, .buf 3 [dS o.w (.own 4 5 0 o.nd.length) o.bad])]) (fun o1 ho1 => ?_) (hc := fun K' hK => h808.2 w nd hp0 (by omega) _ 0 1 _ K' ah ah (by simp only [List.length_cons, List.length_nil]; omega) (by simp only [List.length_cons, List.length_nil]; omega) (fun o ho => hK o ho)) (hn := by decide)
 refine ae ?_
 refine ai [(1, ⟨_, .int _ _⟩)] ?_
 refine ae ?_
 refine eh trivial jv (Eq.trans ah (congrArg (D.int .i64) ?_)) ah ⟨o1, 4, by decide, ho1, rfl, rfl, rfl⟩
 rfl
def eZ : aI := { np := 1, ns := 10, res := [⟨1, none⟩], rsh := [[.a]], body := (.seq (rg [gm (i6 0)] [(1, 0)]) (.seq (.seq (rg [gm s0, gc l0, gf 2 l1, gd l2] [(2, 3)]) (.cond s2 (.seq (rg [gm (i6 0)] [(1, 0)]) .ret) .skip)) (.seq (rg [gm s0, gn (.callM 947 [l0]), gm l1] [(3, 2)]) (.seq (rg [gm s3] [(4, 0)]) (.block 0 (.seq (rg [gn (bA s4 (cs [110, 111, 116])), gm l0] [(5, 1)]) (.cond s5 (.seq (rg [gm s0, gn (.callM 949 [l0]), gm l1] [(6, 2)]) (.seq (rg [gm s0, gm s6, gn (.build [.int .i64 0, .int .i64 0, .int .i64 0, .int .i64 0, .str []] [(0, 1, (i6 2)), (1, 1, l1)]), gn (.callM 948 [l0, l2]), gm l3] [(1, 4)]) .ret)) (.seq (rg [gn (bA s4 (cs [40])), gm l0] [(7, 1)]) (.cond s7 (.seq (rg [gm s0, gn (.callM 660 [l0]), gm l1] [(9, 2)]) (.seq (.seq (rg [gm s0, gn (.callM 947 [l0]), gn (cN l1 (cs [41]))] [(8, 2)]) (.cond s8 (rg [gm s0, gc l0, gf 2 l1, gt 1 l2 (cb true)] []) .skip)) (.seq (rg [gm s9, gm l0] [(1, 1)]) .ret))) (.seq (rg [gm s0, gm s3, gn (.callM 1031 [l0, l1]), gm l2] [(1, 3)]) .ret)))))))))) }
theorem w949 {Γ : Ctx} (hm : (Γ.at 2).bN) (w : List aq) (nd : List Nd) (h660 : DZ (Γ.at 2) (6 * w.length)) (h947 : zi (Γ.at 2)) (h948 : AA (Γ.at 2)) (h949 : D1 (Γ.at 2) (6 * w.length)) (h1031 : Au (Γ.at 2)) (hp0 : nd.length + 2 * w.length ≤ 1000) : bo (Γ.at 2) eZ.body (po eZ (xl 3 dS (dI (kR w nd) w nd) Va) : Ex → List aN → St → Prop) (bF eZ [.ptr 0 3 0 0]) ⟨2, [(0, .buf 3 [dS w (.own 1 5 0 nd.length) false]), (1, .buf 5 (nd.map Nd.D))]⟩ := by
 show bo _ _ _ [⟨true, .ptr 0 3 0 0⟩, .un, .un, .un, .un, .un, .un, .un, .un, .un] ⟨2, [(0, .buf 3 [dS w (.own 1 5 0 nd.length) false]), (1, .buf 5 (nd.map Nd.D))]⟩
 refine aw ?_
 refine ae ?_
 refine ai [(1, ⟨_, .int _ _⟩)] ?_
 iterate 3 refine ae ?_
 refine cz ?_
 refine ae ?_
 refine aj (v := (.bool _)) ?_
 refine ai [(2, ⟨_, .bool _⟩)] ?_
 refine ak (fun hc0 => ?_) (fun hc0 => ?_)
 ·skip
  exact absurd hc0 (by decide)
 ·skip
  iterate 3 refine ae ?_
  refine cF (nx' := 7) (v := .str (bV w)) (m' := [(0, .buf 3 [dS (aT w) (.own 1 5 0 nd.length) (b9 w false)]), (1, .buf 5 (nd.map Nd.D))]) (hc := fun K' hK => h947 w nd false _ 0 1 _ K' ah ah (by simp only [List.length_cons, List.length_nil]; omega) (by simp only [List.length_cons, List.length_nil]; omega) (fun o ho => by subst ho; exact hK)) (hn := by decide) ?_
  refine ae ?_
  refine ai [(3, ⟨_, .str _⟩)] ?_
  iterate 2 refine ae ?_
  refine ai [(4, ⟨_, .str _⟩)] ?_
  refine cW ?_ hm
  refine ae ?_
  refine cH ?_
  refine ae ?_
  refine ai [(5, ⟨_, .bool _⟩)] ?_
  refine wp_cond (fun hc1 => ?_) (fun hc1 => ?_)
  ·simp only [decide_eq_true_eq] at hc1
   obtain ⟨r, rfl⟩ := mY (by decide) hc1
   rw [fD (by decide), fC (by decide)]
   simp only [List.length_cons] at hp0
   iterate 2 refine ae ?_
   refine kC (dI (kR r nd) r nd) Va 14 (fun o => [(14, .buf 5 (o.nd.map Nd.D)), (0, .buf 3 [dS o.w (.own 14 5 0 o.nd.length) o.bad])]) (fun o1 ho1 => ?_) (hc := fun K' hK => h949 r nd (by omega) (by simp only [List.length_cons]; omega) _ 0 1 _ K' ah ah (by simp only [List.length_cons, List.length_nil]; omega) (by simp only [List.length_cons, List.length_nil]; omega) (fun o ho => hK o ho)) (hn := by decide)
   have hl3 := ho1.2.2.1
   have hl4 := ho1.2.1
   refine ae ?_
   refine ai [(6, ⟨_, .int _ _⟩)] ?_
   iterate 3 refine ae ?_
   refine b6 (Nd.D (⟨2, o1.a, 0, 0, []⟩ : Nd)) ?_
   refine cF (nx' := 18) (v := .int .i64 (o1.nd.length : Nat)) (m' := [(20, .buf 5 ((o1.nd ++ [(⟨2, o1.a, 0, 0, []⟩ : Nd)]).map Nd.D)), (0, .buf 3 [dS o1.w (.own 20 5 0 (o1.nd ++ [(⟨2, o1.a, 0, 0, []⟩ : Nd)]).length) o1.bad])]) (hc := fun K' hK => h948 (⟨2, o1.a, 0, 0, []⟩ : Nd) o1.w o1.nd o1.bad (by omega) _ 0 14 _ K' ah ah (by simp only [List.length_cons, List.length_nil]; omega) (by simp only [List.length_cons, List.length_nil]; omega) (fun o ho => by subst ho; exact hK)) (hn := by decide) ?_
   refine ae ?_
   refine ai [(1, ⟨_, .int _ _⟩)] ?_
   refine ae ?_
   refine fK.ret ?_
   refine eh trivial jv (Eq.trans ah (congrArg (D.int .i64) ?_)) ah ⟨⟨(o1.nd.length : Nat), o1.w, o1.nd ++ [(⟨2, o1.a, 0, 0, []⟩ : Nd)], o1.bad⟩, 20, by decide, Dx ho1, rfl, rfl, rfl⟩
   rfl
  ·simp only [decide_eq_false_iff_not] at hc1
   refine ae ?_
   refine cH ?_
   refine ae ?_
   refine ai [(7, ⟨_, .bool _⟩)] ?_
   refine wp_cond (fun hc2 => ?_) (fun hc2 => ?_)
   ·simp only [decide_eq_true_eq] at hc2
    obtain ⟨r, rfl⟩ := mY (by decide) hc2
    rw [fD (by decide), fC (by decide)]
    simp only [List.length_cons] at hp0
    iterate 2 refine ae ?_
    refine kC (dI (jb r nd) r nd) Va 16 (fun o => [(16, .buf 5 (o.nd.map Nd.D)), (0, .buf 3 [dS o.w (.own 16 5 0 o.nd.length) o.bad])]) (fun o1 ho1 => ?_) (hc := fun K' hK => h660 r nd (by omega) (by simp only [List.length_cons]; omega) _ 0 1 _ K' ah ah (by simp only [List.length_cons, List.length_nil]; omega) (by simp only [List.length_cons, List.length_nil]; omega) (fun o ho => hK o ho)) (hn := by decide)
    refine ae ?_
    refine ai [(9, ⟨_, .int _ _⟩)] ?_
    iterate 3 refine ae ?_
    refine cF (nx' := 19) (v := .str (bV o1.w)) (m' := [(16, .buf 5 (o1.nd.map Nd.D)), (0, .buf 3 [dS (aT o1.w) (.own 16 5 0 o1.nd.length) (b9 o1.w o1.bad)])]) (hc := fun K' hK => h947 o1.w o1.nd o1.bad _ 0 16 _ K' ah ah (by simp only [List.length_cons, List.length_nil]; omega) (by simp only [List.length_cons, List.length_nil]; omega) (fun o ho => by subst ho; exact hK)) (hn := by decide) ?_
    refine cn ?_
    refine ai [(8, ⟨_, .bool _⟩)] ?_
    refine ak (fun hc3 => ?_) (fun hc3 => ?_)
    ·simp only [Bool.not_eq_true', decide_eq_false_iff_not] at hc3
     iterate 2 refine ae ?_
     refine cz ?_
     refine ae ?_
     refine aM (dS (aT o1.w) (.own 16 5 0 o1.nd.length) true) (he := by exact rfl) ?_
     refine ai [] ?_
     iterate 3 refine ae ?_
     refine ai [(1, ⟨_, .int _ _⟩)] ?_
     refine ae ?_
     refine fK.ret ?_
     refine eh trivial jv (Eq.trans ah (congrArg (D.int .i64) ?_)) ah ⟨⟨o1.a, aT o1.w, o1.nd, true⟩, 16, by decide, wF ho1 hc3, rfl, rfl, rfl⟩
     rfl
    ·simp only [Bool.not_eq_false', decide_eq_true_eq] at hc3
     iterate 4 refine ae ?_
     refine ai [(1, ⟨_, .int _ _⟩)] ?_
     refine ae ?_
     refine fK.ret ?_
     refine eh trivial jv (Eq.trans ah (congrArg (D.int .i64) ?_)) ah ⟨⟨o1.a, aT o1.w, o1.nd, b9 o1.w o1.bad⟩, 16, by decide, BC ho1 hc3, rfl, rfl, rfl⟩
     rfl
   ·simp only [decide_eq_false_iff_not] at hc2
    have hfa := AS (nd := nd) hc1 hc2
    have htl := (kH w nd).1
    iterate 3 refine ae ?_
    refine kC (dI (iY (b9 w false) (bV w) (aT w) nd) (aT w) nd) Va 16 (fun o => [(17, .buf 5 (o.nd.map Nd.D)), (0, .buf 3 [dS o.w (.own 17 5 0 o.nd.length) o.bad])]) (fun o1 ho1 => ?_) (hc := fun K' hK => h1031 (bV w) (aT w) nd (b9 w false) (by omega) _ 0 1 _ K' ah ah (by simp only [List.length_cons, List.length_nil]; omega) (by simp only [List.length_cons, List.length_nil]; omega) (fun o ho => hK o ho)) (hn := by decide)
    refine ae ?_
    refine ai [(1, ⟨_, .int _ _⟩)] ?_
    refine ae ?_
    refine fK.ret ?_
    refine eh trivial jv (Eq.trans ah (congrArg (D.int .i64) ?_)) ah ⟨o1, 17, by decide, BB hfa ho1, rfl, rfl, rfl⟩
    rfl
end Go.Abs
end
section
namespace Go.Abs
open Go
def kZ : aI := { np := 1, ns := 8, res := [⟨1, some (1, true)⟩, ⟨2, none⟩], rsh := [[.sl 5 [.a, .a, .a, .a, .a]], [.a]], body := (.seq (rg [gb 1 (.c (.agg [.av])), gm (i6 0)] [(1, 0), (2, 1)]) (.seq (.seq (rg [gm s0, gn (.lenS l0), gn (fN l1 (i6 96))] [(3, 2)]) (.cond s3 (.seq (rg [gn (.build [.av] []), gt 1 s1 l0, gm (i6 3)] [(2, 2)]) .ret) .skip)) (.seq (.seq (rg [gm s0, gn (bA l0 (cs []))] [(4, 1)]) (.cond s4 (.seq (rg [gn (.build [.av] []), gt 1 s1 l0, gm (i6 0)] [(2, 2)]) .ret) .skip)) (.seq (rg [gm s0, gx 124 [l0, (cs [32])] [[.a], [.a]], gn (.build [.av, .av, .bool false] [(0, 1, l1)]), gb 3 l2, gm l3] [(5, 4)]) (.seq (rg [gm s5, gn (.callM 660 [l0])] []) (.seq (rg [gm s5, gc l0, gf 1 l1, gd l2, gn (.build [.av] [(0, 1, l3)]), gb 1 (.c (.agg [.av])), gt 1 l5 l4] [(6, 5)]) (.seq (.seq (rg [gm s5, gc l0, gf 2 l1, gd l2, gm l3, ⟨.mv s5, some (4, false)⟩, ⟨.nilck l5, some (4, false)⟩, ⟨.fa 0 l6, some (4, false)⟩, ⟨.ld 1 false l7, some (4, false)⟩, ⟨.len l8, some (4, false)⟩, ⟨.bin .gtr l9 (i6 0), some (4, false)⟩, gn (.pick l4 (cb true) l10), gm kl, ⟨.ld 1 true s6, some (12, false)⟩, ⟨.call 661 [nB] [[.sl 5 [.a, .a, .a, .a, .a]]], some (12, false)⟩, ⟨.un .not nW, some (12, false)⟩, gn (.pick lJ (cb true) oN)] [(7, 16)]) (.cond s7 (.seq (rg [gn (.build [.av] []), gt 1 s1 l0, gm (i6 7)] [(2, 2)]) .ret) .skip)) (.seq (rg [gk 1 true s6, gt 1 s1 l0, gm (i6 0)] [(2, 2)]) .ret)))))))) }
theorem w445 {Γ : Ctx} (hm : (Γ.at 0).bN) (h124 : Av (Γ.at 0)) (h660 : EI (Γ.at 0)) (h661 : EJ (Γ.at 0)) (s : aq)   : bo (Γ.at 0) kZ.body (eC kZ (.tup [iL (lf s).1, .int .i64 (lf s).2]) : Ex → List aN → St → Prop) (bF kZ [.str s]) ⟨0, []⟩ := by
 show bo _ _ _ [⟨true, .str s⟩, .un, .un, .un, .un, .un, .un, .un] ⟨0, []⟩
 refine aw ?_
 refine aZ ?_
 refine ae ?_
 refine ai [(1, ⟨_, _⟩), (2, ⟨_, .int _ _⟩)] ?_
 iterate 3 refine ae ?_
 refine cv fun _ => ?_
 refine bE ?_
 refine ai [(3, ⟨_, .bool _⟩)] ?_
 refine ak (fun hc0 => ?_) (fun hc0 => ?_)
 ·try simp only [au] at hc0
  iterate 2 refine ae ?_
  refine ll [.av] ?_
  refine aM (.agg [.av]) (he := by exact rfl) ?_
  refine ae ?_
  refine ai [(2, ⟨_, .int _ _⟩)] ?_
  refine ae ?_
  refine aB (aY ?_ (congrArg (D.int .i64) ?_))
  all_goals (have hq : lf s = ([], 3) := (by simp only [lf]; rw [if_pos (by omega)]); rw [hq]; first | done | rfl)
 ·try simp only [au] at hc0
  iterate 4 refine ae ?_
  refine cH ?_
  refine ai [(4, ⟨_, .bool _⟩)] ?_
  refine ak (fun hc1 => ?_) (fun hc1 => ?_)
  ·try simp only [au] at hc1
   iterate 2 refine ae ?_
   refine ll [.av] ?_
   refine aM (.agg [.av]) (he := by exact rfl) ?_
   refine ae ?_
   refine ai [(2, ⟨_, .int _ _⟩)] ?_
   refine ae ?_
   refine aB (aY ?_ (congrArg (D.int .i64) ?_))
   all_goals (have hq : lf s = ([], 0) := (by simp only [lf]; rw [if_neg (by omega), if_pos hc1]); rw [hq]; first | done | rfl)
  ·simp only [decide_eq_false_iff_not] at hc1
   have hnl : ¬ 96 < s.length := by omega
   have hsl := cY s 32
   iterate 3 refine ae ?_
   refine ay (hc := h124 s 32 (by omega)) ?_
   refine b6 (dS (ar s 32) .av false) ?_
   refine aZ ?_
   refine ae ?_
   refine ai [(5, ⟨_, _⟩)] ?_
   refine fJ (az.to (env' := [⟨true, .str s⟩, ⟨true, .ptr 0 1 0 0⟩, .un, .un, .un, ⟨true, .ptr 1 3 0 0⟩, .un, .un]) (c := 20) (nx' := 20) (m' := [(0, .buf 1 [.agg [.av]]), (1, .buf 3 [dS (ar s 32) (.own 2 5 0 ([] : List Nd).length) false]), (2, .buf 5 (([] : List Nd).map Nd.D))]) [(0, 0), (10, 1)] rfl ah aX (by refine aV.fR ah ah ah ?_; refine aV.ni 10 ah ah (by exact ⟨_, _, rfl, ⟨_, rfl, ⟨_, _, rfl, ⟨rfl, rfl⟩, ⟨_, _, rfl, Or.inr ⟨_, _, _, rfl⟩, ⟨_, _, rfl, ⟨rfl, rfl⟩, rfl⟩⟩⟩⟩, rfl⟩) ?_; refine aV.mt ah ah ah ah ?_; exact aV.nil)) ?_
   iterate 2 refine ae ?_
   refine kC (dI (jb (ar s 32) []) (ar s 32) []) Va 21 (fun o => [(21, .buf 5 (o.nd.map Nd.D)), (0, .buf 1 [.agg [.av]]), (1, .buf 3 [dS o.w (.own 21 5 0 o.nd.length) o.bad])]) (fun o1 ho1 => ?_) (hc := fun K' hK => h660 (ar s 32) [] (by simp only [List.length_nil]; omega) _ 1 2 _ K' ah ah (by simp only [List.length_cons, List.length_nil]; omega) (by simp only [List.length_cons, List.length_nil]; omega) (fun o ho => hK o ho)) (hn := by decide)
   refine ai [] ?_
   refine ij 21 ?_ (he := by simp only [lM, gI, kL, nn, oI, cg, Nat.reduceEqDiff, if_true, if_false, and_self, true_and, and_true, false_and, and_false, Nat.zero_add, List.length_map, Nat.le_refl, List.drop_zero, aO, reduceCtorEq, List.length_cons, List.length_nil, Nat.reduceAdd, Nat.reduceLeDiff, dS]; exact rfl) (hm := by simp only [lM, gI, kL, nn, oI, cg, Nat.reduceEqDiff, if_true, if_false, and_self, true_and, and_true, false_and, and_false, Nat.zero_add, List.length_map, Nat.le_refl, List.drop_zero, aO, reduceCtorEq, List.length_cons, List.length_nil, Nat.reduceAdd, Nat.reduceLeDiff, dS]; exact rfl)
   iterate 2 refine ae ?_
   refine cz ?_
   refine ae ?_
   refine aj (v := .sl 5 (o1.nd.map Nd.D)) ?_
   refine b6 (iL o1.nd) ?_
   refine aZ ?_
   refine aM (iL o1.nd) (he := by exact rfl) ?_
   refine ai [(6, ⟨_, _⟩)] ?_
   iterate 3 refine ae ?_
   refine cz ?_
   refine ae ?_
   refine aj (v := .bool o1.bad) ?_
   iterate 2 refine ae ?_
   refine cz ?_
   refine ae ?_
   refine aj (v := .sl 1 (o1.w.map D.str)) ?_
   refine aC fun _ => ?_
   refine bE ?_
   refine bY ?_
   refine ae ?_
   refine bG (d := iL o1.nd) ?_
   refine ay (hc := h661 o1.nd) ?_
   refine ct ?_
   refine bY ?_
   refine ai [(7, ⟨_, .bool _⟩)] ?_
   refine ak (fun hc2 => ?_) (fun hc2 => ?_)
   ·have hmx := Fm ho1 hc2
    iterate 2 refine ae ?_
    refine ll [.av] ?_
    refine aM (.agg [.av]) (he := by exact rfl) ?_
    refine ae ?_
    refine ai [(2, ⟨_, .int _ _⟩)] ?_
    refine ae ?_
    refine aB (aY ?_ (congrArg (D.int .i64) ?_))
    all_goals (have hq := Dk hnl hc1 hmx; rw [hq]; first | done | rfl)
   ·have hmx := Dm ho1 hc2
    iterate 2 refine ae ?_
    refine bG (d := iL o1.nd) ?_
    refine aM (iL o1.nd) (he := by exact rfl) ?_
    refine ae ?_
    refine ai [(2, ⟨_, .int _ _⟩)] ?_
    refine ae ?_
    refine aB (aY ?_ (congrArg (D.int .i64) ?_))
    all_goals (have hq := Dl hnl hc1 hmx; rw [hq]; first | done | rfl)
def Gz (Γ : Ctx) : Prop := ∀ (s : aq), Γ.pre 445 [.str s] ∧ Γ.val 445 [.str s] = .tup [iL (lf s).1, .int .i64 (lf s).2]
def gU : aI := { np := 1, ns := 4, res := [⟨1, none⟩], rsh := [[.a]], body := (.seq (rg [gm (cb false)] [(1, 0)]) (.seq (rg [gm s0, gx 445 [l0] [[.a]], gm l1, ge l2 0, ge l2 1, gb 1 (.c (.agg [.av])), gt 1 l5 l3, gm l4] [(3, 5), (2, 7)]) (.seq (rg [gm s2, gn (bA l0 (i6 0)), gm l1, ⟨.ld 1 true s3, some (2, true)⟩, ⟨.call 446 [l3] [[.sl 5 [.a, .a, .a, .a, .a]]], some (2, true)⟩, ⟨.mv s0, some (2, true)⟩, ⟨.bin .eql l4 l5, some (2, true)⟩, gn (.pick l2 l6 (cb false)), gm l7] [(1, 8)]) .ret))) }
theorem w212 {Γ : Ctx} (hm : (Γ.at 0).bN) (h445 : Gz (Γ.at 0)) (h446 : GA (Γ.at 0)) (s : aq)   : bo (Γ.at 0) gU.body (eC gU (.bool (oR s)) : Ex → List aN → St → Prop) (bF gU [.str s]) ⟨0, []⟩ := by
 show bo _ _ _ [⟨true, .str s⟩, .un, .un, .un] ⟨0, []⟩
 refine aw ?_
 refine ae ?_
 refine ai [(1, ⟨_, .bool _⟩)] ?_
 iterate 2 refine ae ?_
 refine ay (hc := h445 s) ?_
 refine ae ?_
 refine bg (iL _) ?_
 refine bg (.int _ _) ?_
 refine aZ ?_
 refine aM (iL (lf s).1) (he := by exact rfl) ?_
 refine ae ?_
 refine ai [(2, ⟨_, .int _ _⟩), (3, ⟨_, _⟩)] ?_
 iterate 2 refine ae ?_
 refine aQ ?_
 refine ae ?_
 refine bG (d := iL (lf s).1) ?_
 refine ay (hc := h446 (lf s).1) ?_
 refine ae ?_
 refine cH ?_
 refine bK ?_
 refine ae ?_
 refine ai [(1, ⟨_, .bool _⟩)] ?_
 refine ae ?_
 refine aB (congrArg D.bool ?_)
 rfl
def Ew (Γ : Ctx) : Prop := ∀ (s : aq), Γ.pre 212 [.str s] ∧ Γ.val 212 [.str s] = .bool (oR s)
end Go.Abs
end
section
namespace Go.Abs
open Go
end Go.Abs
end
section
namespace Go.Abs
open Go
end Go.Abs
end
section
namespace Go.Abs
open Go
end Go.Abs
end
section
namespace Go.Abs
open Go
end Go.Abs
end
section
namespace Go.Abs
open Go
end Go.Abs
end
section
namespace Go.Abs
open Go
end Go.Abs
end
section
namespace Go.Abs
open Go
def iR : aI := { np := 2, ns := 8, res := [⟨2, none⟩], rsh := [[.a]], body := (.seq (rg [gm (i6 0)] [(2, 0)]) (.seq (.seq (rg [gm s0, gl l0, gm (i6 0)] [(4, 1), (3, 2)]) (.block 0 (.loop (.seq (rg [gn (bQ s3 s4)] [(5, 0)]) (.seq (.cond s5 .skip (.exit 0)) (.seq (.block 1 (.seq (rg [gm s3, gm l0] [(6, 1)]) (.seq (rg [gm s1, gm s0, gm s6, ga 1 l1 l2, gd l3, gn (bA l0 l4)] [(7, 5)]) (.cond s7 (.seq (rg [gm s6, gm l0] [(2, 1)]) .ret) .skip)))) (rg [gn (bh s3 (i6 1)), gm l0] [(3, 1)]))))))) (.seq (rg [gn (.mv (.c (.int .i64 (-1))))] [(2, 0)]) .ret))) }
theorem w494 {Γ : Ctx} (hm : (Γ.at 0).bN)  (l : List aq) (x : aq)   : bo (Γ.at 0) iR.body (eC iR (.int .i64 (oK l x 0)) : Ex → List aN → St → Prop) (bF iR [.sl 1 (l.map D.str), .str x]) ⟨0, []⟩ := by
 show bo _ _ _ [⟨true, .sl 1 (l.map D.str)⟩, ⟨true, .str x⟩, .un, .un, .un, .un, .un, .un] ⟨0, []⟩
 refine aw ?_
 refine ae ?_
 refine ai [(2, ⟨_, .int _ _⟩)] ?_
 iterate 3 refine ae ?_
 refine aC fun u0 => ?_; specialize u0 rfl rfl
 refine ae ?_
 refine ai [(3, ⟨_, .int _ _⟩), (4, ⟨_, .int _ _⟩)] ?_
 refine bz hm (ι := Nat) (fun i => [⟨true, .sl 1 (l.map D.str)⟩, ⟨true, .str x⟩, .un, ⟨true, .int .i64 (i : Nat)⟩, ⟨true, .int .i64 (l.length : Nat)⟩, .un, .un, .un]) (fun i => []) 4 (fun i => i ≤ l.length ∧ oK l x 0 = oK l x i) (fun i => l.length - i) 0 ⟨by omega, rfl⟩ (az.to [] ah ah aX bJ) ?_
 rintro i ⟨hi, hr⟩
 refine ae ?_
 refine aW ?_
 refine ai [(5, ⟨_, .bool _⟩)] ?_
 refine ak (fun hc0 => ?_) (fun hc0 => ?_)
 ·try simp only [au] at hc0
  refine ae ?_
  refine ax ?_ hm
  iterate 3 refine ae ?_
  refine ai [(6, ⟨_, .int _ _⟩)] ?_
  iterate 4 refine ae ?_
  first | refine aP _ ?_ | refine br ?_
  first | refine aS (v := (.str _)) ?_ | refine bH (v := (.str _)) ?_
  refine cH ?_
  refine ai [(7, ⟨_, .bool _⟩)] ?_
  refine wp_cond (fun hc1 => ?_) (fun hc1 => ?_)
  ·try simp only [au] at hc1
   iterate 3 refine ae ?_
   refine ai [(2, ⟨_, .int _ _⟩)] ?_
   iterate 3 refine ae ?_
   refine aB (congrArg (D.int .i64) ?_)
   rw [hr, C8 (by omega) hc1]
  ·try simp only [au] at hc1
   iterate 3 refine ae ?_
   refine aF ?_
   refine ae ?_
   refine bL [(3, ⟨_, .int _ _⟩)] ?_
   refine ae ?_
   exact ⟨i + 1, ⟨by omega, by rw [hr, C9 (by omega) hc1]⟩, by omega, (az.to [] ah ah aX bJ)⟩
 ·try simp only [au] at hc0
  iterate 4 refine ae ?_
  refine ai [(2, ⟨_, .int _ _⟩)] ?_
  refine ae ?_
  refine aB (congrArg (D.int .i64) ?_)
  rw [hr, A6 (by omega)]
def GM (Γ : Ctx) : Prop := ∀ (l : List aq) (x : aq), Γ.pre 494 [.sl 1 (l.map D.str), .str x] ∧ Γ.val 494 [.sl 1 (l.map D.str), .str x] = .int .i64 (oK l x 0)
def fh : aI := { np := 2, ns := 3, res := [⟨2, none⟩], rsh := [[.a]], body := (.seq (rg [gm (cb false)] [(2, 0)]) (.seq (rg [gm s0, gm s1, gx 494 [l0, l1] [[.sl 1 [.a]], [.a]], gn (lO l2 (i6 0)), gm l3] [(2, 4)]) .ret)) }
theorem w246 {Γ : Ctx} (hm : (Γ.at 0).bN) (h494 : GM (Γ.at 0)) (l : List aq) (x : aq)   : bo (Γ.at 0) fh.body (eC fh (.bool (decide (x ∈ l))) : Ex → List aN → St → Prop) (bF fh [.sl 1 (l.map D.str), .str x]) ⟨0, []⟩ := by
 show bo _ _ _ [⟨true, .sl 1 (l.map D.str)⟩, ⟨true, .str x⟩, .un] ⟨0, []⟩
 refine aw ?_
 refine ae ?_
 refine ai [(2, ⟨_, .bool _⟩)] ?_
 iterate 3 refine ae ?_
 refine ay (hc := h494 l x) ?_
 refine iv ?_
 refine ae ?_
 refine ai [(2, ⟨_, .bool _⟩)] ?_
 refine ae ?_
 refine aB (congrArg D.bool ?_)
 exact A7 l x
def Gr (Γ : Ctx) : Prop := ∀ (l : List aq) (x : aq), Γ.pre 246 [.sl 1 (l.map D.str), .str x] ∧ Γ.val 246 [.sl 1 (l.map D.str), .str x] = .bool (decide (x ∈ l))
end Go.Abs
end
section
namespace Go.Abs
open Go
def Gq (Γ : Ctx) : Prop := ∀ (s : aq) (n : Int), (s.length ≤ 1048576) → (n = -1 ∨ (1 ≤ n ∧ n ≤ 1000)) → Γ.pre 245 [.str s, .str [32], .int .i64 n] ∧ Γ.val 245 [.str s, .str [32], .int .i64 n] = .sl 1 ((gw n s).map D.str)
def GG (Γ : Ctx) : Prop := ∀ (l : List aq), (l.length ≤ 1048600) → Γ.pre 469 [.sl 1 (l.map D.str)] ∧ Γ.val 469 [.sl 1 (l.map D.str)] = .sl 1 (l.map D.str)
end Go.Abs
end
section
namespace Go.Abs
open Go
def dU : aI := { np := 4, ns := 11, res := [⟨4, none⟩, ⟨5, none⟩], rsh := [[.sl 1 [.a]], [.a]], body := (.seq (rg [gm (.c (.av)), gm (cb false)] [(4, 0), (5, 1)]) (.seq (.seq (rt [gm s0, gc l0, gf 1 l1, gd l2, gm s0, gc l4, gf 0 l5, gd l6, gl l7, gn (lO l3 l8)] [(6, 9)]) (.cond s6 (.seq (rg [gm (.c (.av)), gm (cb false)] [(4, 0), (5, 1)]) .ret) .skip)) (.seq (rg [gn (.mv (.c (.int .i64 (-1))))] [(8, 0)]) (.seq (.seq (rg [gm s3] [(7, 0)]) (.cond s7 (rg [gm s2, gm l0] [(8, 1)]) .skip)) (.seq (rt [gm s0, gc l0, gf 0 l1, gd l2, gm s0, gc l4, gf 1 l5, gd l6, ga 1 l3 l7, gd l8, gm s8, gx 245 [l9, (cs [32]), l10] [[.a], [.a], [.a]], gm kl] [(9, 12)]) (.seq (.seq (rg [gm s9, ga 1 l0 (i6 0), gd l1, gm s1, gn (cN l2 l3), gm l4, ⟨.mv s9, some (5, false)⟩, ⟨.len l6, some (5, false)⟩, ⟨.bin .lss l7 (i6 1), some (5, false)⟩, gn (.pick l5 (cb true) l8), gm l9, ⟨.mv s2, some (10, false)⟩, ⟨.bin .gtr kl (i6 0), some (10, false)⟩, ⟨.mv lJ, some (10, false)⟩, ⟨.mv s9, some (13, true)⟩, ⟨.len nW, some (13, true)⟩, ⟨.mv s2, some (13, true)⟩, ⟨.bin .neq oN qm, some (13, true)⟩, ⟨.pick nB rT (cb false), some (10, false)⟩, gn (.pick l10 (cb true) rU), gm tK, ⟨.mv s9, some (20, false)⟩, ⟨.call 246 [wi, (cs [])] [[.sl 1 [.a]], [.a]], some (20, false)⟩, gn (.pick vz (cb true) xf)] [(10, 23)]) (.cond kF (.seq (rg [gm (.c (.av)), gm (cb false)] [(4, 0), (5, 1)]) .ret) .skip)) (.seq (rg [gm s0, gc l0, gf 1 l1, gd l2, gn (bh l3 (i6 1)), gc l0, gf 1 l5, gt 1 l6 l4] []) (.seq (rg [gm s9, gm l0, gm (cb true)] [(4, 1), (5, 2)]) .ret)))))))) }
theorem Ie {Γ : Ctx} (hm : (Γ.at 1).bN) (h245 : Gq (Γ.at 1)) (h246 : Gr (Γ.at 1)) (r : Ld) (w : aq) (n : Nat) (op : Bool) (hp0 : r.sm) (hp1 : n ≤ 1000) (hp2 : op = true → 1 ≤ n) : bo (Γ.at 1) dU.body (zl dU 2 (.tup [tf (bC w n op r.rest), .bool (bC w n op r.rest).isSome]) (Ld.D (r.after (bC w n op r.rest))) : Ex → List aN → St → Prop) (bF dU (.ptr 0 2 0 0 :: [.str w, .int .i64 (n : Nat), .bool op])) ⟨1, [(0, .buf 2 [(Ld.D r)])]⟩ := by
 show bo _ _ _ [⟨true, .ptr 0 2 0 0⟩, ⟨true, .str w⟩, ⟨true, .int .i64 (n : Nat)⟩, ⟨true, .bool op⟩, .un, .un, .un, .un, .un, .un, .un] ⟨1, [(0, .buf 2 [(Ld.D r)])]⟩
 refine aw ?_
 iterate 2 refine ae ?_
 refine ai [(4, ⟨_, .av⟩), (5, ⟨_, .bool _⟩)] ?_
 iterate 3 refine ae ?_
 refine cz ?_
 refine ae ?_
 refine aj (v := (.int _ _)) ?_
 refine ae ?_
 refine cz ?_
 refine ae ?_
 first | refine aj (v := .sl _ _) ?_ | refine aj (v := .own _ _ _ _) ?_ | refine aj (v := .av) ?_
 refine aC fun _ => ?_
 refine iv ?_
 refine ai [(6, ⟨_, .bool _⟩)] ?_
 refine ak (fun hc0 => ?_) (fun hc0 => ?_)
 ·try simp only [au] at hc0
  iterate 2 refine ae ?_
  have hv : bC w n op r.rest = none := by rw [Ld.BY (by omega)]; rfl
  rw [hv]
  iterate 2 refine ae ?_
  refine ai [(4, ⟨_, .av⟩), (5, ⟨_, .bool _⟩)] ?_
  refine ae ?_
  refine dX trivial jv (Eq.trans ah (aY ?_ (congrArg D.bool ?_))) ah ah ah
  all_goals (first | done | rfl)
 ·try simp only [au] at hc0
  iterate 3 refine ae ?_
  refine ai [(8, ⟨_, .int _ _⟩)] ?_
  iterate 2 refine ae ?_
  have hll := hp0.1
  have hlt : r.at' < r.ls.length := by omega
  have hwl := Ao n op r.ls[r.at']! hp2
  have hw1 : op = true → gw n r.ls[r.at']! = cS n op r.ls[r.at']! := fun h => by rw [← uv, if_pos h]
  have hw2 : op = false → gw (-1) r.ls[r.at']! = cS n op r.ls[r.at']! := fun h => by rw [← uv, if_neg (by rw [h]; simp)]
  refine ae ?_
  refine ai [(7, ⟨_, .bool _⟩)] ?_
  refine ak (fun hc1 => ?_) (fun hc1 => ?_)
  ·try simp only [au] at hc1
   iterate 3 refine ae ?_
   refine ai [(8, ⟨_, _⟩)] ?_
   iterate 2 refine ae ?_
   refine cz ?_
   refine ae ?_
   first | refine aj (v := .sl _ _) ?_ | refine aj (v := .own _ _ _ _) ?_ | refine aj (v := .av) ?_
   refine ae ?_
   refine cz ?_
   refine ae ?_
   refine aj (v := (.int _ _)) ?_
   first | refine aP _ ?_ | refine br ?_
   refine aS (v := .str r.ls[r.at']!) (hi := fun _ => by omega) ?_
   refine ae ?_
   first | (refine ay (hc := h245 r.ls[r.at']! (n : Int) (hp0.2 _ (cE (by omega))) (.inr ⟨by have := hp2 hc1; omega, by omega⟩)) ?_; rw [hw1 hc1]) | (refine ay (hc := h245 r.ls[r.at']! (-1) (hp0.2 _ (cE (by omega))) (.inl rfl)) ?_; rw [hw2 hc1])
   refine ae ?_
   refine ai [(9, ⟨_, .sl _ _⟩)] ?_
   iterate 3 refine ae ?_
   refine aP 0 ?_
   first | refine aS (v := (.str _)) ?_ | refine bH (v := (.str _)) ?_
   refine ae ?_
   refine cn ?_
   iterate 2 refine ae ?_
   refine aC fun _ => ?_
   refine aW ?_
   refine bY ?_
   iterate 2 refine ae ?_
   first | refine bE ?_ | refine BT ?_
   iterate 2 refine ae ?_
   refine aC fun _ => ?_
   refine ae ?_
   refine bU ?_
   refine bK ?_
   refine bY ?_
   iterate 2 refine ae ?_
   refine ay (hc := h246 _ _) ?_
   refine bY ?_
   refine ai [(10, ⟨_, .bool _⟩)] ?_
   refine ak (fun hc2 => ?_) (fun hc2 => ?_)
   ·try simp only [au] at hc2
    iterate 2 refine ae ?_
    have hv : bC w n op r.rest = none := by rw [Ld.mU hlt, bC, wx hc2 hwl]
    rw [hv]
    iterate 2 refine ae ?_
    refine ai [(4, ⟨_, .av⟩), (5, ⟨_, .bool _⟩)] ?_
    refine ae ?_
    refine dX trivial jv (Eq.trans ah (aY ?_ (congrArg D.bool ?_))) ah ah ah
    all_goals (first | done | rfl)
   ·try simp only [au] at hc2
    iterate 3 refine ae ?_
    refine cz ?_
    refine ae ?_
    refine aj (v := (.int _ _)) ?_
    refine aF ?_
    refine cz ?_
    refine ae ?_
    refine aM (Ld.D ⟨r.ls, r.at' + 1⟩) (he := by exact rfl) ?_
    refine ai [] ?_
    refine ae ?_
    have hv : bC w n op r.rest = some (cS n op r.ls[r.at']!, r.ls.drop (r.at' + 1)) := by rw [Ld.mU hlt, bC, tR hc2]
    rw [hv]
    iterate 3 refine ae ?_
    refine ai [(4, ⟨_, .sl _ _⟩), (5, ⟨_, .bool _⟩)] ?_
    refine ae ?_
    refine dX trivial jv (Eq.trans ah (aY ?_ (congrArg D.bool ?_))) ah ah ah
    all_goals (first | done | rfl)
  ·try simp only [au] at hc1
   iterate 3 refine ae ?_
   refine cz ?_
   refine ae ?_
   first | refine aj (v := .sl _ _) ?_ | refine aj (v := .own _ _ _ _) ?_ | refine aj (v := .av) ?_
   refine ae ?_
   refine cz ?_
   refine ae ?_
   refine aj (v := (.int _ _)) ?_
   first | refine aP _ ?_ | refine br ?_
   refine aS (v := .str r.ls[r.at']!) (hi := fun _ => by omega) ?_
   refine ae ?_
   first | (refine ay (hc := h245 r.ls[r.at']! (n : Int) (hp0.2 _ (cE (by omega))) (.inr ⟨by have := hp2 hc1; omega, by omega⟩)) ?_; rw [hw1 hc1]) | (refine ay (hc := h245 r.ls[r.at']! (-1) (hp0.2 _ (cE (by omega))) (.inl rfl)) ?_; rw [hw2 hc1])
   refine ae ?_
   refine ai [(9, ⟨_, .sl _ _⟩)] ?_
   iterate 3 refine ae ?_
   refine aP 0 ?_
   first | refine aS (v := (.str _)) ?_ | refine bH (v := (.str _)) ?_
   refine ae ?_
   refine cn ?_
   iterate 2 refine ae ?_
   refine aC fun _ => ?_
   refine aW ?_
   refine bY ?_
   iterate 2 refine ae ?_
   first | refine bE ?_ | refine BT ?_
   iterate 2 refine ae ?_
   refine aC fun _ => ?_
   refine ae ?_
   refine bU ?_
   refine bK ?_
   refine bY ?_
   iterate 2 refine ae ?_
   refine ay (hc := h246 _ _) ?_
   refine bY ?_
   refine ai [(10, ⟨_, .bool _⟩)] ?_
   refine ak (fun hc2 => ?_) (fun hc2 => ?_)
   ·try simp only [au] at hc2
    iterate 2 refine ae ?_
    have hv : bC w n op r.rest = none := by rw [Ld.mU hlt, bC, wx hc2 hwl]
    rw [hv]
    iterate 2 refine ae ?_
    refine ai [(4, ⟨_, .av⟩), (5, ⟨_, .bool _⟩)] ?_
    refine ae ?_
    refine dX trivial jv (Eq.trans ah (aY ?_ (congrArg D.bool ?_))) ah ah ah
    all_goals (first | done | rfl)
   ·try simp only [au] at hc2
    iterate 3 refine ae ?_
    refine cz ?_
    refine ae ?_
    refine aj (v := (.int _ _)) ?_
    refine aF ?_
    refine cz ?_
    refine ae ?_
    refine aM (Ld.D ⟨r.ls, r.at' + 1⟩) (he := by exact rfl) ?_
    refine ai [] ?_
    refine ae ?_
    have hv : bC w n op r.rest = some (cS n op r.ls[r.at']!, r.ls.drop (r.at' + 1)) := by rw [Ld.mU hlt, bC, tR hc2]
    rw [hv]
    iterate 3 refine ae ?_
    refine ai [(4, ⟨_, .sl _ _⟩), (5, ⟨_, .bool _⟩)] ?_
    refine ae ?_
    refine dX trivial jv (Eq.trans ah (aY ?_ (congrArg D.bool ?_))) ah ah ah
    all_goals (first | done | rfl)
def Ct (Γ : Ctx) : Prop := ∀ (r : Ld) (w : aq) (n : Nat) (op : Bool), (r.sm) → (n ≤ 1000) → (op = true → 1 ≤ n) → Γ.fp 465 (Ld.D r) [.str w, .int .i64 (n : Nat), .bool op] ∧ Γ.fv 465 (Ld.D r) [.str w, .int .i64 (n : Nat), .bool op] = .tup [tf (bC w n op r.rest), .bool (bC w n op r.rest).isSome] ∧ Γ.fs 465 (Ld.D r) [.str w, .int .i64 (n : Nat), .bool op] = Ld.D (r.after (bC w n op r.rest))
end Go.Abs
end
section
namespace Go.Abs
open Go
def jQ : aI := { np := 2, ns := 2, res := [], rsh := [], body := (.seq (rg [gm s0, gm s1, gx 242 [l1, (cs [32])] [[.sl 1 [.a]], [.a]], gn (.callM 489 [l0, l2])] []) (rg [gm s0, gn (.callM 664 [l0, (.c (.int .u8 10))])] [])) }
theorem w450 {Γ : Ctx} (hm : (Γ.at 3).bN) (ws : List aq) (t : aq) (m0 : List (Nat × bm)) (h242 : Cs (Γ.at 3)) (h489 : EH (Γ.at 3)) (h664 : EL (Γ.at 3)) (hp0 : nu m0 0 t) (hp1 : look m0 1 = some (.buf 1 (ws.map D.str))) (hp2 : uB ws t) : bo (Γ.at 3) jQ.body (po jQ (fun d m => d = .tup [] ∧ look m 0 = some (.bld (some 9) (t ++ bR ws).length true) ∧ look m 9 = some (.row (t ++ bR ws))) : Ex → List aN → St → Prop) (bF jQ [.ptr 0 2 0 0, .own 1 1 0 ws.length]) ⟨3, m0⟩ := by
 show bo _ _ _ [⟨true, .ptr 0 2 0 0⟩, ⟨true, .own 1 1 0 ws.length⟩] ⟨3, m0⟩
 obtain ⟨⟨q1, q2⟩, q3, q4⟩ := hp2
 have hlt : t ++ bR ws = t ++ bj [32] ws ++ [10] := by unfold bR; simp
 refine aw ?_
 iterate 2 refine ae ?_
 refine ay (hc := h242 ws [32] q2 (by decide) q3) (ha := fun _ => congrArg (fun d => [d, D.str [32]]) (vu (q := D.str) (fun _ => rfl) hp1)) (hp := fun _ => ⟨sT (q := D.str) (fun _ => rfl) hp1, rfl, trivial⟩) ?_
 refine cF (nx' := 4) (v := .any) (m' := lR m0 0 6 (t ++ bj [32] ws)) (hc := fun K' hK => h489 _ _ K' ⟨_, 0, t, rfl, hp0, Nat.lt_of_lt_of_le (by decide : 0 < 3) (Nat.le_add_right _ _), q1, by omega, hK⟩) (hn := by decide) ?_
 refine ai [] ?_
 iterate 2 refine ae ?_
 refine cF (nx' := 9) (v := .any) (m' := lR (lR m0 0 6 (t ++ bj [32] ws)) 0 9 (t ++ bj [32] ws ++ [10])) (hc := fun K' hK => h664 _ _ K' ⟨10, 0, t ++ bj [32] ws, rfl, CM (by decide), Nat.lt_of_lt_of_le (by decide : 0 < 8) (Nat.le_add_right _ _), by simp, by rw [List.length_append]; exact q4, hK⟩) (hn := by decide) ?_
 refine bL [] ?_

 refine eh trivial jv (Eq.trans ah (?_)) ah ⟨rfl, by rw [hlt]; exact (pM (by decide)).1, by rw [hlt]; exact (pM (by decide)).2⟩
 rfl
end Go.Abs
end
section
namespace Go.Abs
open Go
def jS : aI := { np := 1, ns := 31, res := [⟨1, none⟩], rsh := [[.a]], body := (.seq (rg [gb 9 s0, gm (cs [])] [(2, 0), (1, 1)]) (.seq (rg [⟨.mkB, none⟩] [(3, 0)]) (.seq (rt [gf 0 s2, gd l0, gf 1 s2, gk 5 true l2, gx 451 [l3] [[.a, .a, .a, .a, .a]], gn (.bsl 1 (.str []) 3 [(0, (cs [112, 97, 99, 107, 97, 103, 101])), (1, l1), (2, l4)]), gn (.callM 450 [s3, l5])] []) (.seq (.seq (rg [gf 6 s2, gd l0, gl l1, gm (i6 0)] [(7, 1), (5, 2), (4, 3)]) (.block 0 (.loop (.seq (rg [gn (bQ s4 s5)] [(6, 0)]) (.seq (.cond s6 .skip (.exit 0)) (.seq (.block 1 (.seq (rg [ga 3 s7 s4, gk 3 true l0, gb 3 (.c (.agg [.av, .str [], .str []])), gt 3 l2 l1] [(8, 2)]) (.seq (rg [gn (.bsl 1 (.str []) 1 [(0, (cs [110, 101, 101, 100]))]), gn (.callM 450 [s3, l0])] []) (.seq (.seq (rg [gf 0 s8, gd l0, gl l1, gm (i6 0)] [(12, 1), (10, 2), (9, 3)]) (.block 2 (.loop (.seq (rg [gn (bQ s9 kF)] [(11, 0)]) (.seq (.cond mV .skip (.exit 2)) (.seq (.block 3 (.seq (rg [ga 4 jV s9, gk 4 true l0, gb 4 (.c (.agg [.str [], .str [], .av, .bool false])), gt 4 l2 l1] [(13, 2)]) (.seq (rg [gm (cs [45]), gm (cs [102, 117, 108, 108])] [(16, 0), (17, 1)]) (.seq (.seq (rg [gf 2 ri, gd l0, gl l1, gn (fN l2 (i6 0))] [(14, 3)]) (.cond vj (rg [gf 2 ri, gd l0, gx 242 [l1, (cs [44])] [[.sl 1 [.a]], [.a]], gm l2] [(16, 3)]) .skip)) (.seq (.seq (rg [gf 3 ri, gd l0] [(15, 1)]) (.cond sE (rg [gm (cs [98, 97, 114, 101])] [(17, 0)]) .skip)) (rg [gf 0 ri, gd l0, gm y6, gm wS, gf 1 ri, gd l4, gn (.bsl 1 (.str []) 5 [(0, (cs [97, 110, 121])), (1, l1), (2, l2), (3, l3), (4, l5)]), gn (.callM 450 [s3, l6])] [])))))) (rg [gn (bh s9 (i6 1)), gm l0] [(9, 1)]))))))) (.seq (.seq (rg [gf 1 s8, gd l0, gn (cN l1 (cs []))] [(18, 2)]) (.cond Ac (rg [gf 1 s8, gd l0, gn (.bsl 1 (.str []) 2 [(0, (cs [119, 104, 101, 110])), (1, l1)]), gn (.callM 450 [s3, l2])] []) .skip)) (.seq (rg [gf 2 s8, gd l0, gn (cN l1 (cs []))] [(19, 2)]) (.cond FH (rg [gf 2 s8, gd l0, gn (.bsl 1 (.str []) 2 [(0, (cs [111, 112, 116, 105, 111, 110])), (1, l1)]), gn (.callM 450 [s3, l2])] []) .skip))))))) (rg [gn (bh s4 (i6 1)), gm l0] [(4, 1)]))))))) (.seq (.seq (rg [gf 7 s2, gd l0, gl l1, gm (i6 0)] [(23, 1), (21, 2), (20, 3)]) (.block 4 (.loop (.seq (rg [gn (bQ Cm s21)] [(22, 0)]) (.seq (.cond s22 .skip (.exit 4)) (.seq (.block 5 (.seq (rg [ga 3 s23 Cm, gk 3 true l0, gb 3 (.c (.agg [.str [], .str [], .str []])), gt 3 l2 l1] [(24, 2)]) (.seq (rg [gf 0 F5, gd l0, gf 1 F5, gd l2, gn (.bsl 1 (.str []) 3 [(0, (cs [98, 97, 114])), (1, l1), (2, l3)]), gn (.callM 450 [s3, l4])] []) (.seq (rg [gf 2 F5, gd l0, gn (cN l1 (cs []))] [(25, 2)]) (.cond F6 (rg [gf 2 F5, gd l0, gn (.bsl 1 (.str []) 2 [(0, (cs [119, 104, 101, 110])), (1, l1)]), gn (.callM 450 [s3, l2])] []) .skip))))) (rg [gn (bh Cm (i6 1)), gm l0] [(20, 1)]))))))) (.seq (.seq (rg [gf 8 s2, gd l0, gl l1, gm (i6 0)] [(29, 1), (27, 2), (26, 3)]) (.block 6 (.loop (.seq (rg [gn (bQ H3 s27)] [(28, 0)]) (.seq (.cond s28 .skip (.exit 6)) (.seq (.block 7 (.seq (rg [ga 2 s29 H3, gk 2 true l0, gb 2 (.c (.agg [.str [], .av])), gt 2 l2 l1] [(30, 2)]) (rg [gf 0 Ep, gd l0, gn (.bsl 1 (.str []) 2 [(0, (cs [102, 101, 97, 116, 117, 114, 101])), (1, l1)]), gf 1 Ep, gd l3, gn (.app 1 l2 l4), gn (.callM 450 [s3, l5])] []))) (rg [gn (bh H3 (i6 1)), gm l0] [(26, 1)]))))))) (.seq (rg [gn (.callM 452 [s3]), gm l0] [(1, 1)]) .ret))))))) }
theorem w215 {Γ : Ctx} (hm : (Γ.at 0).bN) (h242 : Cs (Γ.at 0)) (h450 : EC (Γ.at 0)) (h451 : ED (Γ.at 0)) (h452 : EE (Γ.at 0)) (r : Rec)  (hp0 : tG r ∧ kD r) : bo (Γ.at 0) jS.body (eC jS (.str (o9 r)) : Ex → List aN → St → Prop) (bF jS [Rec.D r]) ⟨0, []⟩ := by
 show bo _ _ _ [⟨true, Rec.D r⟩, .un, .un, .un, .un, .un, .un, .un, .un, .un, .un, .un, .un, .un, .un, .un, .un, .un, .un, .un, .un, .un, .un, .un, .un, .un, .un, .un, .un, .un, .un] ⟨0, []⟩
 have hft := zD hp0
 have q0 := hft.nm
 have q00 := wZ r.v hft.v
 have hs := hp0.2
 refine aw ?_
 refine aZ ?_
 refine ae ?_
 refine ai [(1, ⟨_, .str _⟩), (2, ⟨_, _⟩)] ?_
 refine ae ?_
 refine HZ ?_
 refine ai [(3, ⟨_, _⟩)] ?_
 iterate 2 refine ae ?_
 refine aj (v := (.str _)) ?_
 refine ae ?_
 refine aj (v := dP.D r.v) ?_
 refine ay (hc := h451 r.v hft.v) ?_
 refine dK [(.str _), (.str _), (.str _)] ?_
 refine cF (nx' := 4) (v := .tup []) (m' := [(9, .row (oJ r)), (0, .buf 9 [Rec.D r]), (2, .bld (some 9) (oJ r).length true)]) (hc := fun K' hK => h450 [dt, r.name, oc r.v] ([]) 2 8 _ _ K' (.inl ⟨false, by exact rfl, rfl⟩) ah (by simp only [List.length_cons, List.length_nil]; omega) (by simp only [List.length_cons, List.length_nil]; omega) (.mk (by decide) (by simp only [List.length_cons, List.length_nil, List.cons_append, List.nil_append]; omega) (List.forall_mem_cons.2 ⟨by decide, List.forall_mem_cons.2 ⟨by omega, List.forall_mem_cons.2 ⟨by omega, fun _ h => nomatch h⟩⟩⟩) (by first | omega | (simp only [List.length_append, List.length_nil]; omega))) (by rw [show ([]) ++ bR [dt, r.name, oc r.v] = oJ r from rfl]; exact hK)) (hn := by decide) ?_
 refine ai [] ?_
 iterate 3 refine ae ?_
 first | refine aj (v := .sl _ _) ?_ | refine aj (v := .own _ _ _ _) ?_ | refine aj (v := .av) ?_
 refine aC fun u0 => ?_; specialize u0 rfl rfl
 refine ae ?_
 refine ai [(4, ⟨_, .int _ _⟩), (5, ⟨_, .int _ _⟩), (7, ⟨_, .sl _ _⟩)] ?_
 refine bz hm (ι := Nat) (fun i => [.un, .un, ⟨true, .ptr 0 9 0 0⟩, ⟨true, .ptr 2 2 0 0⟩, ⟨true, .int .i64 (i : Nat)⟩, ⟨true, .int .i64 (r.needs.length : Nat)⟩, .un, ⟨true, .sl 3 (r.needs.map aJ.D)⟩, .un, .un, .un, .un, .un, .un, .un, .un, .un, .un, .un, .un, .un, .un, .un, .un, .un, .un, .un, .un, .un, .un, .un]) (fun i => [(0, .buf 9 [Rec.D r]), (2, .bld (some 3) (gY r i).length true), (3, .row (gY r i))]) 10 (fun i => i ≤ r.needs.length) (fun i => r.needs.length - i) 0 (by omega) (az.to [(0, 0), (2, 2), (9, 3)] ah ah aX (by refine aV.fR ah ah ah ?_; refine aV.bl 2 ah ah ah (congrArg List.length (by rw [Er])) rfl ?_; refine aV.rw 9 ah ah (by rw [Er]) ?_; exact aV.nil)) ?_
 intro i hi
 have q1 := zb hft i hi
 refine ae ?_
 refine aW ?_
 refine ai [(6, ⟨_, .bool _⟩)] ?_
 refine ak (fun hc0 => ?_) (fun hc0 => ?_)
 ·try simp only [au] at hc0
  refine ae ?_
  refine ax ?_ hm
  refine ae ?_
  have hnf := hft.n _ (cE (show i < r.needs.length by omega))
  have hn3 := hnf.1.1
  first | refine aP _ ?_ | refine br ?_
  refine aS (v := aJ.D r.needs[i]!) (hi := fun _ => by omega) ?_
  refine aZ ?_
  refine aM (aJ.D r.needs[i]!) (he := by exact rfl) ?_
  refine ai [(8, ⟨_, _⟩)] ?_
  refine ae ?_
  refine dK [(.str _)] ?_
  refine cF (nx' := 16) (v := .tup []) (m' := [(16, .row (gY r i ++ cD r.needs[i]! 0)), (0, .buf 9 [Rec.D r]), (2, .bld (some 16) (gY r i ++ cD r.needs[i]! 0).length true), (13, .buf 3 [aJ.D r.needs[i]!])]) (hc := fun K' hK => h450 [ie] (gY r i) 2 15 _ _ K' (.inr ⟨3, true, by exact rfl, by exact rfl⟩) ah (by simp only [List.length_cons, List.length_nil]; omega) (by simp only [List.length_cons, List.length_nil]; omega) (.mk (by decide) (by simp only [List.length_cons, List.length_nil, List.cons_append, List.nil_append]; omega) (List.forall_mem_cons.2 ⟨by decide, fun _ h => nomatch h⟩) (by first | omega | (simp only [List.length_append, List.length_nil]; omega))) (by rw [show (gY r i) ++ bR [ie] = gY r i ++ cD r.needs[i]! 0 from rfl]; exact hK)) (hn := by decide) ?_
  refine ai [] ?_
  iterate 3 refine ae ?_
  first | refine aj (v := .sl _ _) ?_ | refine aj (v := .own _ _ _ _) ?_ | refine aj (v := .av) ?_
  refine aC fun u1 => ?_; specialize u1 rfl rfl
  refine ae ?_
  refine ai [(9, ⟨_, .int _ _⟩), (10, ⟨_, .int _ _⟩), (12, ⟨_, .sl _ _⟩)] ?_
  refine bz hm (ι := Nat) (fun j => [.un, .un, ⟨true, .ptr 0 9 0 0⟩, ⟨true, .ptr 2 2 0 0⟩, ⟨true, .int .i64 (i : Nat)⟩, ⟨true, .int .i64 (r.needs.length : Nat)⟩, .un, ⟨true, .sl 3 (r.needs.map aJ.D)⟩, ⟨true, .ptr 4 3 0 0⟩, ⟨true, .int .i64 (j : Nat)⟩, ⟨true, .int .i64 (r.needs[i]!.any.length : Nat)⟩, .un, ⟨true, .sl 4 (r.needs[i]!.any.map aR.D)⟩, .un, .un, .un, .un, .un, .un, .un, .un, .un, .un, .un, .un, .un, .un, .un, .un, .un, .un]) (fun j => [(0, .buf 9 [Rec.D r]), (4, .buf 3 [aJ.D r.needs[i]!]), (2, .bld (some 3) (gY r i ++ cD r.needs[i]! j).length true), (3, .row (gY r i ++ cD r.needs[i]! j))]) 20 (fun j => j ≤ r.needs[i]!.any.length) (fun j => r.needs[i]!.any.length - j) 0 (by omega) (az.to [(0, 0), (13, 4), (2, 2), (16, 3)] ah ah aX (by refine aV.fR ah ah ah ?_; refine aV.nl 13 ah ah rfl ah ?_; refine aV.bl 2 ah ah ah (congrArg List.length (rfl)) rfl ?_; refine aV.rw 16 ah ah (rfl) ?_; exact aV.nil)) ?_
  intro j hj
  have q2 := zP hnf j (by omega)
  refine ae ?_
  refine aW ?_
  refine ai [(11, ⟨_, .bool _⟩)] ?_
  refine ak (fun hc1 => ?_) (fun hc1 => ?_)
  ·try simp only [au] at hc1
   refine ae ?_
   refine ax ?_ hm
   refine ae ?_
   have hwf := hnf.1.2 _ (cE (show j < r.needs[i]!.any.length by omega))
   have q3 := vo hwf
   have q4 := hwf.1.1.1
   have q5 := hwf.1.1.2
   first | refine aP _ ?_ | refine br ?_
   refine aS (v := aR.D r.needs[i]!.any[j]!) (hi := fun _ => by omega) ?_
   refine aZ ?_
   refine aM (aR.D r.needs[i]!.any[j]!) (he := by exact rfl) ?_
   refine ai [(13, ⟨_, _⟩)] ?_
   iterate 3 refine ae ?_
   refine ai [(16, ⟨_, .str _⟩), (17, ⟨_, .str _⟩)] ?_
   iterate 3 refine ae ?_
   first | refine aj (v := .sl _ _) ?_ | refine aj (v := .own _ _ _ _) ?_ | refine aj (v := .av) ?_
   refine aC fun u2 => ?_; specialize u2 rfl rfl
   refine bE ?_
   refine ai [(14, ⟨_, .bool _⟩)] ?_
   refine ak (fun hc2 => ?_) (fun hc2 => ?_)
   ·try simp only [au] at hc2
    iterate 2 refine ae ?_
    first | refine aj (v := .sl _ _) ?_ | refine aj (v := .own _ _ _ _) ?_ | refine aj (v := .av) ?_
    refine ay (hc := h242 r.needs[i]!.any[j]!.feats [44] (by have := hwf.2.1; omega) (by decide) (fun t ht => by have := hwf.2.2 t ht; omega)) ?_
    refine ae ?_
    refine ai [(16, ⟨_, .str _⟩)] ?_
    iterate 3 refine ae ?_
    refine aj (v := (.bool _)) ?_
    refine ai [(15, ⟨_, .bool _⟩)] ?_
    refine ak (fun hc3 => ?_) (fun hc3 => ?_)
    ·try simp only [au] at hc3
     iterate 2 refine ae ?_
     refine ai [(17, ⟨_, .str _⟩)] ?_
     refine ae ?_
     have hwl : bR [jy, r.needs[i]!.any[j]!.name, (bj [44] r.needs[i]!.any[j]!.feats), ic, r.needs[i]!.any[j]!.range] = iC r.needs[i]!.any[j]! := by
      unfold iC sQ
      first | rw [if_pos (show r.needs[i]!.any[j]!.feats.length = 0 by omega)] | rw [if_neg (show ¬ r.needs[i]!.any[j]!.feats.length = 0 by omega)]
      rw [hc3]; rfl
     have hwj := lg (n := r.needs[i]!) (j := j) (by omega)
     refine ae ?_
     refine aj (v := (.str _)) ?_
     iterate 3 refine ae ?_
     refine aj (v := (.str _)) ?_
     refine dK [(.str _), (.str _), (.str _), (.str _), (.str _)] ?_
     refine cF (nx' := 39) (v := .tup []) (m' := [(45, .row (gY r i ++ cD r.needs[i]! (j + 1))), (0, .buf 9 [Rec.D r]), (4, .buf 3 [aJ.D r.needs[i]!]), (2, .bld (some 45) (gY r i ++ cD r.needs[i]! (j + 1)).length true), (23, .buf 4 [aR.D r.needs[i]!.any[j]!])]) (hc := fun K' hK => h450 [jy, r.needs[i]!.any[j]!.name, (bj [44] r.needs[i]!.any[j]!.feats), ic, r.needs[i]!.any[j]!.range] (gY r i ++ cD r.needs[i]! j) 2 44 _ _ K' (.inr ⟨3, true, by exact rfl, by exact rfl⟩) ah (by simp only [List.length_cons, List.length_nil]; omega) (by simp only [List.length_cons, List.length_nil]; omega) (.mk (by decide) (by simp only [List.length_cons, List.length_nil, List.cons_append, List.nil_append]; omega) (List.forall_mem_cons.2 ⟨by decide, List.forall_mem_cons.2 ⟨by omega, List.forall_mem_cons.2 ⟨by first | omega | decide, List.forall_mem_cons.2 ⟨by decide, List.forall_mem_cons.2 ⟨by omega, fun _ h => nomatch h⟩⟩⟩⟩⟩) (by first | omega | (simp only [List.length_append, List.length_nil]; omega))) (by rw [show (gY r i ++ cD r.needs[i]! j) ++ bR [jy, r.needs[i]!.any[j]!.name, (bj [44] r.needs[i]!.any[j]!.feats), ic, r.needs[i]!.any[j]!.range] = gY r i ++ cD r.needs[i]! (j + 1) from by rw [hwl, hwj, List.append_assoc]]; exact hK)) (hn := by decide) ?_
     refine bL [] ?_
     iterate 2 refine ae ?_
     refine aF ?_
     refine ae ?_
     refine bL [(9, ⟨_, .int _ _⟩)] ?_
     refine ae ?_
     exact ⟨j + 1, (by omega), by omega, (az.to [(0, 0), (4, 4), (2, 2), (45, 3)] ah ah aX (by refine aV.fR ah ah ah ?_; refine aV.nl 4 ah ah rfl ah ?_; refine aV.bl 2 ah ah ah (congrArg List.length (rfl)) rfl ?_; refine aV.rw 45 ah ah (rfl) ?_; exact aV.nil))⟩
    ·try simp only [au] at hc3
     iterate 2 refine ae ?_
     have hwl : bR [jy, r.needs[i]!.any[j]!.name, (bj [44] r.needs[i]!.any[j]!.feats), mB, r.needs[i]!.any[j]!.range] = iC r.needs[i]!.any[j]! := by
      unfold iC sQ
      first | rw [if_pos (show r.needs[i]!.any[j]!.feats.length = 0 by omega)] | rw [if_neg (show ¬ r.needs[i]!.any[j]!.feats.length = 0 by omega)]
      rw [hc3]; rfl
     have hwj := lg (n := r.needs[i]!) (j := j) (by omega)
     refine ae ?_
     refine aj (v := (.str _)) ?_
     iterate 3 refine ae ?_
     refine aj (v := (.str _)) ?_
     refine dK [(.str _), (.str _), (.str _), (.str _), (.str _)] ?_
     refine cF (nx' := 38) (v := .tup []) (m' := [(44, .row (gY r i ++ cD r.needs[i]! (j + 1))), (0, .buf 9 [Rec.D r]), (4, .buf 3 [aJ.D r.needs[i]!]), (2, .bld (some 44) (gY r i ++ cD r.needs[i]! (j + 1)).length true), (23, .buf 4 [aR.D r.needs[i]!.any[j]!])]) (hc := fun K' hK => h450 [jy, r.needs[i]!.any[j]!.name, (bj [44] r.needs[i]!.any[j]!.feats), mB, r.needs[i]!.any[j]!.range] (gY r i ++ cD r.needs[i]! j) 2 43 _ _ K' (.inr ⟨3, true, by exact rfl, by exact rfl⟩) ah (by simp only [List.length_cons, List.length_nil]; omega) (by simp only [List.length_cons, List.length_nil]; omega) (.mk (by decide) (by simp only [List.length_cons, List.length_nil, List.cons_append, List.nil_append]; omega) (List.forall_mem_cons.2 ⟨by decide, List.forall_mem_cons.2 ⟨by omega, List.forall_mem_cons.2 ⟨by first | omega | decide, List.forall_mem_cons.2 ⟨by decide, List.forall_mem_cons.2 ⟨by omega, fun _ h => nomatch h⟩⟩⟩⟩⟩) (by first | omega | (simp only [List.length_append, List.length_nil]; omega))) (by rw [show (gY r i ++ cD r.needs[i]! j) ++ bR [jy, r.needs[i]!.any[j]!.name, (bj [44] r.needs[i]!.any[j]!.feats), mB, r.needs[i]!.any[j]!.range] = gY r i ++ cD r.needs[i]! (j + 1) from by rw [hwl, hwj, List.append_assoc]]; exact hK)) (hn := by decide) ?_
     refine bL [] ?_
     iterate 2 refine ae ?_
     refine aF ?_
     refine ae ?_
     refine bL [(9, ⟨_, .int _ _⟩)] ?_
     refine ae ?_
     exact ⟨j + 1, (by omega), by omega, (az.to [(0, 0), (4, 4), (2, 2), (44, 3)] ah ah aX (by refine aV.fR ah ah ah ?_; refine aV.nl 4 ah ah rfl ah ?_; refine aV.bl 2 ah ah ah (congrArg List.length (rfl)) rfl ?_; refine aV.rw 44 ah ah (rfl) ?_; exact aV.nil))⟩
   ·try simp only [au] at hc2
    iterate 4 refine ae ?_
    refine aj (v := (.bool _)) ?_
    refine ai [(15, ⟨_, .bool _⟩)] ?_
    refine ak (fun hc3 => ?_) (fun hc3 => ?_)
    ·try simp only [au] at hc3
     iterate 2 refine ae ?_
     refine ai [(17, ⟨_, .str _⟩)] ?_
     refine ae ?_
     have hwl : bR [jy, r.needs[i]!.any[j]!.name, [45], ic, r.needs[i]!.any[j]!.range] = iC r.needs[i]!.any[j]! := by
      unfold iC sQ
      first | rw [if_pos (show r.needs[i]!.any[j]!.feats.length = 0 by omega)] | rw [if_neg (show ¬ r.needs[i]!.any[j]!.feats.length = 0 by omega)]
      rw [hc3]; rfl
     have hwj := lg (n := r.needs[i]!) (j := j) (by omega)
     refine ae ?_
     refine aj (v := (.str _)) ?_
     iterate 3 refine ae ?_
     refine aj (v := (.str _)) ?_
     refine dK [(.str _), (.str _), (.str _), (.str _), (.str _)] ?_
     refine cF (nx' := 35) (v := .tup []) (m' := [(41, .row (gY r i ++ cD r.needs[i]! (j + 1))), (0, .buf 9 [Rec.D r]), (4, .buf 3 [aJ.D r.needs[i]!]), (2, .bld (some 41) (gY r i ++ cD r.needs[i]! (j + 1)).length true), (23, .buf 4 [aR.D r.needs[i]!.any[j]!])]) (hc := fun K' hK => h450 [jy, r.needs[i]!.any[j]!.name, [45], ic, r.needs[i]!.any[j]!.range] (gY r i ++ cD r.needs[i]! j) 2 40 _ _ K' (.inr ⟨3, true, by exact rfl, by exact rfl⟩) ah (by simp only [List.length_cons, List.length_nil]; omega) (by simp only [List.length_cons, List.length_nil]; omega) (.mk (by decide) (by simp only [List.length_cons, List.length_nil, List.cons_append, List.nil_append]; omega) (List.forall_mem_cons.2 ⟨by decide, List.forall_mem_cons.2 ⟨by omega, List.forall_mem_cons.2 ⟨by first | omega | decide, List.forall_mem_cons.2 ⟨by decide, List.forall_mem_cons.2 ⟨by omega, fun _ h => nomatch h⟩⟩⟩⟩⟩) (by first | omega | (simp only [List.length_append, List.length_nil]; omega))) (by rw [show (gY r i ++ cD r.needs[i]! j) ++ bR [jy, r.needs[i]!.any[j]!.name, [45], ic, r.needs[i]!.any[j]!.range] = gY r i ++ cD r.needs[i]! (j + 1) from by rw [hwl, hwj, List.append_assoc]]; exact hK)) (hn := by decide) ?_
     refine bL [] ?_
     iterate 2 refine ae ?_
     refine aF ?_
     refine ae ?_
     refine bL [(9, ⟨_, .int _ _⟩)] ?_
     refine ae ?_
     exact ⟨j + 1, (by omega), by omega, (az.to [(0, 0), (4, 4), (2, 2), (41, 3)] ah ah aX (by refine aV.fR ah ah ah ?_; refine aV.nl 4 ah ah rfl ah ?_; refine aV.bl 2 ah ah ah (congrArg List.length (rfl)) rfl ?_; refine aV.rw 41 ah ah (rfl) ?_; exact aV.nil))⟩
    ·try simp only [au] at hc3
     iterate 2 refine ae ?_
     have hwl : bR [jy, r.needs[i]!.any[j]!.name, [45], mB, r.needs[i]!.any[j]!.range] = iC r.needs[i]!.any[j]! := by
      unfold iC sQ
      first | rw [if_pos (show r.needs[i]!.any[j]!.feats.length = 0 by omega)] | rw [if_neg (show ¬ r.needs[i]!.any[j]!.feats.length = 0 by omega)]
      rw [hc3]; rfl
     have hwj := lg (n := r.needs[i]!) (j := j) (by omega)
     refine ae ?_
     refine aj (v := (.str _)) ?_
     iterate 3 refine ae ?_
     refine aj (v := (.str _)) ?_
     refine dK [(.str _), (.str _), (.str _), (.str _), (.str _)] ?_
     refine cF (nx' := 34) (v := .tup []) (m' := [(40, .row (gY r i ++ cD r.needs[i]! (j + 1))), (0, .buf 9 [Rec.D r]), (4, .buf 3 [aJ.D r.needs[i]!]), (2, .bld (some 40) (gY r i ++ cD r.needs[i]! (j + 1)).length true), (23, .buf 4 [aR.D r.needs[i]!.any[j]!])]) (hc := fun K' hK => h450 [jy, r.needs[i]!.any[j]!.name, [45], mB, r.needs[i]!.any[j]!.range] (gY r i ++ cD r.needs[i]! j) 2 39 _ _ K' (.inr ⟨3, true, by exact rfl, by exact rfl⟩) ah (by simp only [List.length_cons, List.length_nil]; omega) (by simp only [List.length_cons, List.length_nil]; omega) (.mk (by decide) (by simp only [List.length_cons, List.length_nil, List.cons_append, List.nil_append]; omega) (List.forall_mem_cons.2 ⟨by decide, List.forall_mem_cons.2 ⟨by omega, List.forall_mem_cons.2 ⟨by first | omega | decide, List.forall_mem_cons.2 ⟨by decide, List.forall_mem_cons.2 ⟨by omega, fun _ h => nomatch h⟩⟩⟩⟩⟩) (by first | omega | (simp only [List.length_append, List.length_nil]; omega))) (by rw [show (gY r i ++ cD r.needs[i]! j) ++ bR [jy, r.needs[i]!.any[j]!.name, [45], mB, r.needs[i]!.any[j]!.range] = gY r i ++ cD r.needs[i]! (j + 1) from by rw [hwl, hwj, List.append_assoc]]; exact hK)) (hn := by decide) ?_
     refine bL [] ?_
     iterate 2 refine ae ?_
     refine aF ?_
     refine ae ?_
     refine bL [(9, ⟨_, .int _ _⟩)] ?_
     refine ae ?_
     exact ⟨j + 1, (by omega), by omega, (az.to [(0, 0), (4, 4), (2, 2), (40, 3)] ah ah aX (by refine aV.fR ah ah ah ?_; refine aV.nl 4 ah ah rfl ah ?_; refine aV.bl 2 ah ah ah (congrArg List.length (rfl)) rfl ?_; refine aV.rw 40 ah ah (rfl) ?_; exact aV.nil))⟩
  ·try simp only [au] at hc1
   iterate 4 refine ae ?_
   have hnA := zO (n := r.needs[i]!) (j := j) (by omega)
   have w4 := mZ hnf.2.1
   have w5 := hnf.2.2
   have w6 := hnf.2.1
   refine ae ?_
   refine aj (v := (.str _)) ?_
   refine cn ?_
   refine ai [(18, ⟨_, .bool _⟩)] ?_
   refine ak (fun hc4 => ?_) (fun hc4 => ?_)
   ·try simp only [au] at hc4
    refine ae ?_
    have hwt : jr r.needs[i]!.when' = bR [j5, r.needs[i]!.when'] := if_neg hc4
    refine ae ?_
    refine aj (v := (.str _)) ?_
    refine dK [(.str _), (.str _)] ?_
    refine cF (nx' := 25) (v := .tup []) (m' := [(27, .row (gY r i ++ (cD r.needs[i]! j ++ jr r.needs[i]!.when'))), (0, .buf 9 [Rec.D r]), (4, .buf 3 [aJ.D r.needs[i]!]), (2, .bld (some 27) (gY r i ++ (cD r.needs[i]! j ++ jr r.needs[i]!.when')).length true)]) (hc := fun K' hK => h450 [j5, r.needs[i]!.when'] (gY r i ++ cD r.needs[i]! j) 2 26 _ _ K' (.inr ⟨3, true, by exact rfl, by exact rfl⟩) ah (by simp only [List.length_cons, List.length_nil]; omega) (by simp only [List.length_cons, List.length_nil]; omega) (.mk (by decide) (by simp only [List.length_cons, List.length_nil, List.cons_append, List.nil_append]; omega) (List.forall_mem_cons.2 ⟨by decide, List.forall_mem_cons.2 ⟨by omega, fun _ h => nomatch h⟩⟩) (by first | omega | (simp only [List.length_append, List.length_nil]; omega))) (by rw [show (gY r i ++ cD r.needs[i]! j) ++ bR [j5, r.needs[i]!.when'] = gY r i ++ (cD r.needs[i]! j ++ jr r.needs[i]!.when') from by rw [hwt, List.append_assoc]]; exact hK)) (hn := by decide) ?_
    refine ai [] ?_
    iterate 2 refine ae ?_
    refine aj (v := (.str _)) ?_
    refine cn ?_
    refine ai [(19, ⟨_, .bool _⟩)] ?_
    refine wp_cond (fun hc5 => ?_) (fun hc5 => ?_)
    ·try simp only [au] at hc5
     refine ae ?_
     have hot : wE r.needs[i]!.option = bR [dH, r.needs[i]!.option] := if_neg hc5
     refine ae ?_
     refine aj (v := (.str _)) ?_
     refine dK [(.str _), (.str _)] ?_
     refine cF (nx' := 33) (v := .tup []) (m' := [(35, .row (gY r (i + 1))), (0, .buf 9 [Rec.D r]), (4, .buf 3 [aJ.D r.needs[i]!]), (2, .bld (some 35) (gY r (i + 1)).length true)]) (hc := fun K' hK => h450 [dH, r.needs[i]!.option] (gY r i ++ (cD r.needs[i]! j ++ jr r.needs[i]!.when')) 2 34 _ _ K' (.inr ⟨27, true, by exact rfl, by exact rfl⟩) ah (by simp only [List.length_cons, List.length_nil]; omega) (by simp only [List.length_cons, List.length_nil]; omega) (.mk (by decide) (by simp only [List.length_cons, List.length_nil, List.cons_append, List.nil_append]; omega) (List.forall_mem_cons.2 ⟨by decide, List.forall_mem_cons.2 ⟨by omega, fun _ h => nomatch h⟩⟩) (by first | omega | (simp only [List.length_append, List.length_nil]; omega))) (by rw [show (gY r i ++ (cD r.needs[i]! j ++ jr r.needs[i]!.when')) ++ bR [dH, r.needs[i]!.option] = gY r (i + 1) from by rw [kI (by omega), hnA, hot]; simp only [List.append_assoc, List.append_nil]]; exact hK)) (hn := by decide) ?_
     refine bL [] ?_
     iterate 2 refine ae ?_
     refine aF ?_
     refine ae ?_
     refine bL [(4, ⟨_, .int _ _⟩)] ?_
     refine ae ?_
     exact ⟨i + 1, (by omega), by omega, (az.to [(0, 0), (2, 2), (35, 3)] ah ah aX (by refine aV.fR ah ah ah ?_; refine aV.bl 2 ah ah ah (congrArg List.length (rfl)) rfl ?_; refine aV.rw 35 ah ah (rfl) ?_; exact aV.nil))⟩
    ·try simp only [au] at hc5
     iterate 3 refine ae ?_
     have hno : wE r.needs[i]!.option = [] := if_pos (by simpa using hc5)
     refine aF ?_
     refine ae ?_
     refine bL [(4, ⟨_, .int _ _⟩)] ?_
     refine ae ?_
     exact ⟨i + 1, (by omega), by omega, (az.to [(0, 0), (2, 2), (27, 3)] ah ah aX (by refine aV.fR ah ah ah ?_; refine aV.bl 2 ah ah ah (congrArg List.length (by rw [kI (by omega), hnA, hno]; simp only [List.append_assoc, List.append_nil])) rfl ?_; refine aV.rw 27 ah ah (by rw [kI (by omega), hnA, hno]; simp only [List.append_assoc, List.append_nil]) ?_; exact aV.nil))⟩
   ·try simp only [au] at hc4
    iterate 2 refine ae ?_
    have hnw : jr r.needs[i]!.when' = [] := if_pos (by simpa using hc4)
    refine ae ?_
    refine aj (v := (.str _)) ?_
    refine cn ?_
    refine ai [(19, ⟨_, .bool _⟩)] ?_
    refine wp_cond (fun hc5 => ?_) (fun hc5 => ?_)
    ·try simp only [au] at hc5
     refine ae ?_
     have hot : wE r.needs[i]!.option = bR [dH, r.needs[i]!.option] := if_neg hc5
     refine ae ?_
     refine aj (v := (.str _)) ?_
     refine dK [(.str _), (.str _)] ?_
     refine cF (nx' := 28) (v := .tup []) (m' := [(30, .row (gY r (i + 1))), (0, .buf 9 [Rec.D r]), (4, .buf 3 [aJ.D r.needs[i]!]), (2, .bld (some 30) (gY r (i + 1)).length true)]) (hc := fun K' hK => h450 [dH, r.needs[i]!.option] (gY r i ++ cD r.needs[i]! j) 2 29 _ _ K' (.inr ⟨3, true, by exact rfl, by exact rfl⟩) ah (by simp only [List.length_cons, List.length_nil]; omega) (by simp only [List.length_cons, List.length_nil]; omega) (.mk (by decide) (by simp only [List.length_cons, List.length_nil, List.cons_append, List.nil_append]; omega) (List.forall_mem_cons.2 ⟨by decide, List.forall_mem_cons.2 ⟨by omega, fun _ h => nomatch h⟩⟩) (by first | omega | (simp only [List.length_append, List.length_nil]; omega))) (by rw [show (gY r i ++ cD r.needs[i]! j) ++ bR [dH, r.needs[i]!.option] = gY r (i + 1) from by rw [kI (by omega), hnA, hot, hnw]; simp only [List.append_assoc, List.append_nil]]; exact hK)) (hn := by decide) ?_
     refine bL [] ?_
     iterate 2 refine ae ?_
     refine aF ?_
     refine ae ?_
     refine bL [(4, ⟨_, .int _ _⟩)] ?_
     refine ae ?_
     exact ⟨i + 1, (by omega), by omega, (az.to [(0, 0), (2, 2), (30, 3)] ah ah aX (by refine aV.fR ah ah ah ?_; refine aV.bl 2 ah ah ah (congrArg List.length (rfl)) rfl ?_; refine aV.rw 30 ah ah (rfl) ?_; exact aV.nil))⟩
    ·try simp only [au] at hc5
     iterate 3 refine ae ?_
     have hno : wE r.needs[i]!.option = [] := if_pos (by simpa using hc5)
     refine aF ?_
     refine ae ?_
     refine bL [(4, ⟨_, .int _ _⟩)] ?_
     refine ae ?_
     exact ⟨i + 1, (by omega), by omega, (az.to [(0, 0), (2, 2), (3, 3)] ah ah aX (by refine aV.fR ah ah ah ?_; refine aV.bl 2 ah ah ah (congrArg List.length (by rw [kI (by omega), hnA, hno, hnw]; simp only [List.append_assoc, List.append_nil])) rfl ?_; refine aV.rw 3 ah ah (by rw [kI (by omega), hnA, hno, hnw]; simp only [List.append_assoc, List.append_nil]) ?_; exact aV.nil))⟩
 ·try simp only [au] at hc0
  iterate 4 refine ae ?_
  have h33 : i = r.needs.length := by omega
  subst h33
  refine ae ?_
  first | refine aj (v := .sl _ _) ?_ | refine aj (v := .own _ _ _ _) ?_ | refine aj (v := .av) ?_
  refine aC fun u3 => ?_; specialize u3 rfl rfl
  refine ae ?_
  refine ai [(20, ⟨_, .int _ _⟩), (21, ⟨_, .int _ _⟩), (23, ⟨_, .sl _ _⟩)] ?_
  refine bz hm (ι := Nat) (fun i => [.un, .un, ⟨true, .ptr 0 9 0 0⟩, ⟨true, .ptr 2 2 0 0⟩, .un, .un, .un, .un, .un, .un, .un, .un, .un, .un, .un, .un, .un, .un, .un, .un, ⟨true, .int .i64 (i : Nat)⟩, ⟨true, .int .i64 (r.bars.length : Nat)⟩, .un, ⟨true, .sl 3 (r.bars.map ec.D)⟩, .un, .un, .un, .un, .un, .un, .un]) (fun i => [(0, .buf 9 [Rec.D r]), (2, .bld (some 3) (sX r i).length true), (3, .row (sX r i))]) 10 (fun i => i ≤ r.bars.length) (fun i => r.bars.length - i) 0 (by omega) (az.to [(0, 0), (2, 2), (3, 3)] ah ah aX (by refine aV.fR ah ah ah ?_; refine aV.bl 2 ah ah ah (congrArg List.length (by rw [Es])) rfl ?_; refine aV.rw 3 ah ah (by rw [Es]) ?_; exact aV.nil)) ?_
  intro i hi
  have q1 := zc hft i hi
  refine ae ?_
  refine aW ?_
  refine ai [(22, ⟨_, .bool _⟩)] ?_
  refine ak (fun hc6 => ?_) (fun hc6 => ?_)
  ·try simp only [au] at hc6
   refine ae ?_
   refine ax ?_ hm
   refine ae ?_
   have q4 := hft.b _ (cE (show i < r.bars.length by omega))
   have q5 := q4.1
   have q6 := q4.2.1
   have q7 := q4.2.2
   have hbt : vM r.bars[i]! = bR [jq, r.bars[i]!.name, r.bars[i]!.range] ++ jr r.bars[i]!.when' := rfl
   have hxb := B9 (r := r) (i := i) (by omega)
   have w7 := mZ q7
   first | refine aP _ ?_ | refine br ?_
   refine aS (v := ec.D r.bars[i]!) (hi := fun _ => by omega) ?_
   refine aZ ?_
   refine aM (ec.D r.bars[i]!) (he := by exact rfl) ?_
   refine ai [(24, ⟨_, _⟩)] ?_
   iterate 2 refine ae ?_
   refine aj (v := (.str _)) ?_
   refine ae ?_
   refine aj (v := (.str _)) ?_
   refine dK [(.str _), (.str _), (.str _)] ?_
   refine cF (nx' := 16) (v := .tup []) (m' := [(20, .row (sX r i ++ bR [jq, r.bars[i]!.name, r.bars[i]!.range])), (0, .buf 9 [Rec.D r]), (2, .bld (some 20) (sX r i ++ bR [jq, r.bars[i]!.name, r.bars[i]!.range]).length true), (13, .buf 3 [ec.D r.bars[i]!])]) (hc := fun K' hK => h450 [jq, r.bars[i]!.name, r.bars[i]!.range] (sX r i) 2 19 _ _ K' (.inr ⟨3, true, by exact rfl, by exact rfl⟩) ah (by simp only [List.length_cons, List.length_nil]; omega) (by simp only [List.length_cons, List.length_nil]; omega) (.mk (by decide) (by simp only [List.length_cons, List.length_nil, List.cons_append, List.nil_append]; omega) (List.forall_mem_cons.2 ⟨by decide, List.forall_mem_cons.2 ⟨by omega, List.forall_mem_cons.2 ⟨by omega, fun _ h => nomatch h⟩⟩⟩) (by first | omega | (simp only [List.length_append, List.length_nil]; omega))) (by rw [show (sX r i) ++ bR [jq, r.bars[i]!.name, r.bars[i]!.range] = sX r i ++ bR [jq, r.bars[i]!.name, r.bars[i]!.range] from rfl]; exact hK)) (hn := by decide) ?_
   refine ai [] ?_
   refine ae ?_
   have w8 : (bR [jq, r.bars[i]!.name, r.bars[i]!.range]).length ≤ 2200000 := by unfold bR; simp only [bj, jq, List.length_append, List.length_cons, List.length_nil]; omega
   refine ae ?_
   refine aj (v := (.str _)) ?_
   refine cn ?_
   refine ai [(25, ⟨_, .bool _⟩)] ?_
   refine wp_cond (fun hc7 => ?_) (fun hc7 => ?_)
   ·try simp only [au] at hc7
    refine ae ?_
    have hwt : jr r.bars[i]!.when' = bR [j5, r.bars[i]!.when'] := if_neg hc7
    refine ae ?_
    refine aj (v := (.str _)) ?_
    refine dK [(.str _), (.str _)] ?_
    refine cF (nx' := 26) (v := .tup []) (m' := [(28, .row (sX r (i + 1))), (0, .buf 9 [Rec.D r]), (2, .bld (some 28) (sX r (i + 1)).length true), (13, .buf 3 [ec.D r.bars[i]!])]) (hc := fun K' hK => h450 [j5, r.bars[i]!.when'] (sX r i ++ bR [jq, r.bars[i]!.name, r.bars[i]!.range]) 2 27 _ _ K' (.inr ⟨20, true, by exact rfl, by exact rfl⟩) ah (by simp only [List.length_cons, List.length_nil]; omega) (by simp only [List.length_cons, List.length_nil]; omega) (.mk (by decide) (by simp only [List.length_cons, List.length_nil, List.cons_append, List.nil_append]; omega) (List.forall_mem_cons.2 ⟨by decide, List.forall_mem_cons.2 ⟨by omega, fun _ h => nomatch h⟩⟩) (by first | omega | (simp only [List.length_append, List.length_nil]; omega))) (by rw [show (sX r i ++ bR [jq, r.bars[i]!.name, r.bars[i]!.range]) ++ bR [j5, r.bars[i]!.when'] = sX r (i + 1) from by rw [hxb, hbt, hwt, List.append_assoc]]; exact hK)) (hn := by decide) ?_
    refine bL [] ?_
    iterate 2 refine ae ?_
    refine aF ?_
    refine ae ?_
    refine bL [(20, ⟨_, .int _ _⟩)] ?_
    refine ae ?_
    exact ⟨i + 1, (by omega), by omega, (az.to [(0, 0), (2, 2), (28, 3)] ah ah aX (by refine aV.fR ah ah ah ?_; refine aV.bl 2 ah ah ah (congrArg List.length (rfl)) rfl ?_; refine aV.rw 28 ah ah (rfl) ?_; exact aV.nil))⟩
   ·try simp only [au] at hc7
    iterate 3 refine ae ?_
    have hno : jr r.bars[i]!.when' = [] := if_pos (by simpa using hc7)
    refine aF ?_
    refine ae ?_
    refine bL [(20, ⟨_, .int _ _⟩)] ?_
    refine ae ?_
    exact ⟨i + 1, (by omega), by omega, (az.to [(0, 0), (2, 2), (20, 3)] ah ah aX (by refine aV.fR ah ah ah ?_; refine aV.bl 2 ah ah ah (congrArg List.length (by rw [hxb, hbt, hno, List.append_nil])) rfl ?_; refine aV.rw 20 ah ah (by rw [hxb, hbt, hno, List.append_nil]) ?_; exact aV.nil))⟩
  ·try simp only [au] at hc6
   iterate 4 refine ae ?_
   have h33 : i = r.bars.length := by omega
   subst h33
   refine ae ?_
   first | refine aj (v := .sl _ _) ?_ | refine aj (v := .own _ _ _ _) ?_ | refine aj (v := .av) ?_
   refine aC fun u4 => ?_; specialize u4 rfl rfl
   refine ae ?_
   refine ai [(26, ⟨_, .int _ _⟩), (27, ⟨_, .int _ _⟩), (29, ⟨_, .sl _ _⟩)] ?_
   refine bz hm (ι := Nat) (fun i => [.un, .un, ⟨true, .ptr 0 9 0 0⟩, ⟨true, .ptr 2 2 0 0⟩, .un, .un, .un, .un, .un, .un, .un, .un, .un, .un, .un, .un, .un, .un, .un, .un, .un, .un, .un, .un, .un, .un, ⟨true, .int .i64 (i : Nat)⟩, ⟨true, .int .i64 (r.feats.length : Nat)⟩, .un, ⟨true, .sl 2 (r.feats.map ba.D)⟩, .un]) (fun i => [(0, .buf 9 [Rec.D r]), (2, .bld (some 3) (vn r i).length true), (3, .row (vn r i))]) 10 (fun i => i ≤ r.feats.length) (fun i => r.feats.length - i) 0 (by omega) (az.to [(0, 0), (2, 2), (3, 3)] ah ah aX (by refine aV.fR ah ah ah ?_; refine aV.bl 2 ah ah ah (congrArg List.length (by rw [Et])) rfl ?_; refine aV.rw 3 ah ah (by rw [Et]) ?_; exact aV.nil)) ?_
   intro i hi
   have q1 := DU hft i hi
   refine ae ?_
   refine aW ?_
   refine ai [(28, ⟨_, .bool _⟩)] ?_
   refine ak (fun hc8 => ?_) (fun hc8 => ?_)
   ·try simp only [au] at hc8
    refine ae ?_
    refine ax ?_ hm
    refine ae ?_
    have q4 := hft.f _ (cE (show i < r.feats.length by omega))
    have q5 := q4.1.1
    have q6 := q4.2
    have q8 : ∀ t ∈ r.feats[i]!.of, t.length ≤ 2097200 := fun t ht => Nat.le_trans (q4.1.2.2 t ht) (by decide)
    have hxf := Ca (r := r) (i := i) (by omega)
    first | refine aP _ ?_ | refine br ?_
    refine aS (v := ba.D r.feats[i]!) (hi := fun _ => by omega) ?_
    refine aZ ?_
    refine aM (ba.D r.feats[i]!) (he := by exact rfl) ?_
    refine ai [(30, ⟨_, _⟩)] ?_
    iterate 2 refine ae ?_
    refine aj (v := (.str _)) ?_
    refine dK [(.str _), (.str _)] ?_
    refine ae ?_
    first | refine aj (v := .sl _ _) ?_ | refine aj (v := .own _ _ _ _) ?_ | refine aj (v := .av) ?_
    refine En (zs := ([cO, r.feats[i]!.name] ++ r.feats[i]!.of).map D.str) (n := ([cO, r.feats[i]!.name] ++ r.feats[i]!.of).length) (ha := by simp) (he := yp.sl) (hz := by rw [List.drop_zero]; rfl) (hn := by simp <;> omega) (hb := by simp only [List.length_cons, List.length_nil, List.cons_append, List.nil_append]; omega) ?_
    refine cF (nx' := 16) (v := .tup []) (m' := [(21, .row (vn r (i + 1))), (0, .buf 9 [Rec.D r]), (2, .bld (some 21) (vn r (i + 1)).length true), (13, .buf 2 [ba.D r.feats[i]!])]) (hc := fun K' hK => h450 ([cO, r.feats[i]!.name] ++ r.feats[i]!.of) (vn r i) 2 20 _ _ K' (.inr ⟨3, true, by exact rfl, by exact rfl⟩) ah (by simp only [List.length_cons, List.length_nil]; omega) (by simp only [List.length_cons, List.length_nil]; omega) (.mk (l := r.feats[i]!.name :: r.feats[i]!.of) (by decide) (by simp only [List.length_cons, List.length_nil, List.cons_append, List.nil_append]; omega) (List.forall_mem_cons.2 ⟨by decide, List.forall_mem_cons.2 ⟨by omega, q8⟩⟩) (by first | omega | (simp only [List.length_append, List.length_nil]; omega))) (by rw [show (vn r i) ++ bR ([cO, r.feats[i]!.name] ++ r.feats[i]!.of) = vn r (i + 1) from by rw [hxf]; rfl]; exact hK)) (hn := by decide) ?_
    refine bL [] ?_
    iterate 2 refine ae ?_
    refine aF ?_
    refine ae ?_
    refine bL [(26, ⟨_, .int _ _⟩)] ?_
    refine ae ?_
    exact ⟨i + 1, (by omega), by omega, (az.to [(0, 0), (2, 2), (21, 3)] ah ah aX (by refine aV.fR ah ah ah ?_; refine aV.bl 2 ah ah ah (congrArg List.length (rfl)) rfl ?_; refine aV.rw 21 ah ah (rfl) ?_; exact aV.nil))⟩
   ·try simp only [au] at hc8
    iterate 3 refine ae ?_
    have h33 : i = r.feats.length := by omega
    subst h33
    have hne : vn r r.feats.length ≠ [] := by
     rw [zd]; unfold o9 oJ bR; simp [bj, dt]
    refine cF (nx' := 11) (v := .str (vn r r.feats.length)) (m' := [(0, .buf 9 [Rec.D r])]) (hc := fun K' hK => h452 _ _ K' ⟨2, vn r r.feats.length, rfl, .inr ⟨3, true, by exact rfl, by exact rfl⟩, hne, hK⟩) (hn := by decide) ?_
    refine ae ?_
    refine ai [(1, ⟨_, .str _⟩)] ?_
    refine ae ?_
    refine aB (congrArg D.str ?_)
    exact zd r
end Go.Abs
end
namespace Go.Abs
theorem Ld.vl {r : Ld} (h : r.sm) : r.to r.rest = r := by
 obtain ⟨ls, n⟩ := r
 have h1 : n ≤ ls.length := h.1.1
 simp only [Ld.to, Ld.rest, List.length_drop, Ld.mk.injEq, true_and]
 omega
theorem Ld.rk {r : Ld} {q : List aq} (h : q <:+ r.ls) : (r.to q).rest = q := by
 obtain ⟨ls, n⟩ := r
 obtain ⟨a, e⟩ := h
 simp only at e
 subst e
 simp [Ld.rest, Ld.to]
theorem Ld.sm.to {r : Ld} (h : r.sm) (q : List aq) : (r.to q).sm := ⟨⟨Nat.sub_le _ _, h.1.2⟩, h.2⟩
theorem Ld.sC (r : Ld) : r.rest <:+ r.ls := List.drop_suffix _ _
def cJ (w : aq) (n : Nat) (op : Bool) (p : List aq) : List aq := match bC w n op p with
 | some (_, q) => q
 | none => p
theorem ku {w : aq} {n : Nat} {op : Bool} {p l q : List aq} (h : bC w n op p = some (l, q)) : q <:+ p := by
 obtain ⟨t, rfl, _⟩ := dc h
 exact List.suffix_cons _ _
theorem Ld.vF {r : Ld} {p : List aq} (hp : p <:+ r.ls) {w : aq} {n : Nat} {op : Bool} : (r.to p).after (bC w n op p) = r.to (cJ w n op p) := by
 unfold cJ
 cases h : bC w n op p with
 | none => rfl
 | some lq =>
  obtain ⟨l, q⟩ := lq
  have := gJ h
  have := hp.length_le
  simp only [Ld.after, Ld.to, Ld.mk.injEq, true_and]
  omega
theorem qZ {Γ : Ctx} (h : Ct Γ) {r : Ld} (hr : r.sm) {p : List aq} (hp : p <:+ r.ls) {w : aq} {n : Nat} {op : Bool} (hn : n ≤ 1000) (ho : op = true → 1 ≤ n) :
  Γ.fp 465 (Ld.D (r.to p)) [.str w, .int .i64 (n : Nat), .bool op] ∧ Γ.fv 465 (Ld.D (r.to p)) [.str w, .int .i64 (n : Nat), .bool op] = .tup [tf (bC w n op p), .bool (bC w n op p).isSome] ∧ Γ.fs 465 (Ld.D (r.to p)) [.str w, .int .i64 (n : Nat), .bool op] = Ld.D (r.to (cJ w n op p)) := by
 have := h (r.to p) w n op (hr.to p) hn ho
 rw [Ld.rk hp, Ld.vF hp] at this
 exact this
theorem pO {w : aq} {n : Nat} {op : Bool} {t : aq} {l : List aq} (h : jg w n op t = some l) : (n = 0 ∨ l.length = n) ∧ [] ∉ l ∧ l = cS n op t := by
 unfold jg at h
 split at h
 ·rename_i hc; obtain rfl := Option.some.inj h; exact ⟨hc.2.1, hc.2.2, rfl⟩
 ·cases h
theorem mf (x : UInt8) : ∀ (l : List aq) (n : Nat), (bj [x] (l.drop n)).length ≤ (bj [x] l).length
 | [], n => by simp
 | a :: r, 0 => Nat.le_refl _
 | [a], n + 1 => by simp [bj]
 | a :: b :: r, n + 1 => by
  have := mf x (b :: r) n
  rw [List.drop_succ_cons, eu [x] a (b :: r) (by simp)]
  simp only [List.length_append]
  omega
theorem xd {n : Nat} {op : Bool} {t w : aq} (h : w ∈ cS n op t) : w.length ≤ t.length := by
 unfold cS at h
 split at h
 ·unfold nP at h
  split at h
  ·exact dd t 32 h
  ·rw [List.mem_append] at h
   rcases h with h | h
   ·exact dd t 32 (List.mem_of_mem_take h)
   ·simp only [List.mem_singleton] at h
    subst h
    have := mf 32 (ar t 32) (n - 1)
    rw [jG (b := 32) (x := 32) rfl t] at this
    exact this
 ·exact dd t 32 h
theorem jL {r : Ld} (hr : r.sm) {p : List aq} (hp : p <:+ r.ls) {w : aq} {n : Nat} {op : Bool} {l q : List aq} (h : bC w n op p = some (l, q)) :
  (n = 0 ∨ l.length = n) ∧ (∀ u ∈ l, u.length ≤ 1048576) ∧ q <:+ r.ls ∧ q.length + 1 = p.length := by
 obtain ⟨t, rfl, ht⟩ := dc h
 obtain ⟨h1, _, h3⟩ := pO ht
 refine ⟨h1, fun u hu => ?_, (List.suffix_cons _ _).trans hp, rfl⟩
 rw [h3] at hu
 have := xd hu
 have := hr.2 t (hp.subset (.head _))
 omega
theorem Ld.back {r : Ld} {t : aq} {q : List aq} (h : (t :: q) <:+ r.ls) : sJ (Ld.D (r.to q)) 2 1 1 (.int .i64 (((r.to q).at' : Nat) - 1 : Int)) = Ld.D (r.to (t :: q)) := by
 have := h.length_le
 show D.agg [.sl 1 (r.ls.map D.str), .int .i64 (((r.ls.length - q.length : Nat) : Int) - 1)] = D.agg [.sl 1 (r.ls.map D.str), .int .i64 ((r.ls.length - (q.length + 1) : Nat) : Int)]
 simp only [List.length_cons] at this
 congr 4; omega
theorem fT {α : Type} {o : Option α} (h : o.isSome = true) : ∃ a, o = some a := Option.isSome_iff_exists.1 h
theorem fS {α : Type} {o : Option α} (h : o.isSome = false) : o = none := by cases o with
 | none => rfl
 | some a => cases h
def aR.N (x : aR) : Go.Abs.D := .agg [.str x.name, .str x.range, Fp x.feats, .bool x.bare]
theorem Fs : ∀ l : List aq, qN (Fp l) (.sl 1 (l.map D.str))
 | [] => .nil 1
 | _ :: _ => .refl _
theorem aR.wk (x : aR) : qN x.N x.D := .ag (.cons (.refl _) (.cons (.refl _) (.cons (Fs _) (.cons (.refl _) .nil))))
theorem aR.kM (x : aR) : x.N.aL = true := by
 simp only [aR.N, D.aL, aH, tS, Bool.and_true]
theorem vt {p : List aq} (h : bC jy 5 true p = none) : cl p = ([], p) := by
 match p, h with
 | [], _ => rfl
 | t :: r, h =>
  simp only [bC] at h
  split at h
  ·cases h
  ·rename_i hn; simp only [cl, hn]
theorem yj {p l q : List aq} (h : bC jy 5 true p = some (l, q)) (ho : qi l = false) : cl p = ([], p) := by
 obtain ⟨t, rfl, ht⟩ := dc h
 simp only [cl, ht, ho, Bool.false_eq_true, if_false]
theorem xc {p l q : List aq} (h : bC jy 5 true p = some (l, q)) (ho : qi l = true) : cl p = (eP l :: (cl q).1, (cl q).2) := by
 obtain ⟨t, rfl, ht⟩ := dc h
 simp only [cl, ht, ho, if_true]
theorem mX (s : aq) (b : Int) : ar s b ≠ [] := by
 have := fB b s []
 intro h
 unfold ar at h
 rw [h] at this; simp at this
theorem Fq {l : List aq} (h : l ≠ []) : Fp l = .sl 1 (l.map D.str) := by
 match l, h with
 | _ :: _, _ => rfl
theorem fI (p : List aq) : (bw p).2 <:+ p := by
 unfold bw
 split
 ·rename_i h; exact ku h
 ·exact List.suffix_refl _
theorem By (p : List aq) : (pQ p).2 <:+ p := by
 unfold pQ
 split
 ·rename_i h; exact ku h
 ·exact List.suffix_refl _
end Go.Abs
section
namespace Go.Abs
open Go
def dV : aI := { np := 1, ns := 5, res := [⟨1, none⟩], rsh := [[.a]], body := (.seq (rg [gm (cs [])] [(1, 0)]) (.seq (.seq (rg [gm s0, gn (.callF 465 l0 [(cs [119, 104, 101, 110]), (i6 2), (cb true)] [[.a], [.a], [.a]]), gm l1, ge l2 0, ge l2 1, gm l3, gm l4] [(4, 5), (2, 6)]) (.seq (rg [gm s2] [(3, 0)]) (.cond s3 (.seq (rg [gm s4, ga 1 l0 (i6 1), gd l1, gm l2] [(1, 3)]) .ret) .skip))) (.seq (rg [gm (cs [])] [(1, 0)]) .ret))) }
theorem w468 {Γ : Ctx} (hm : (Γ.at 1).bN) (h465 : Ct (Γ.at 1)) (r : Ld)  (hp0 : r.sm) : bo (Γ.at 1) dV.body (zl dV 2 (.str (bw r.rest).1) (Ld.D (r.to (bw r.rest).2)) : Ex → List aN → St → Prop) (bF dV (.ptr 0 2 0 0 :: [])) ⟨1, [(0, .buf 2 [(Ld.D r)])]⟩ := by
 show bo _ _ _ [⟨true, .ptr 0 2 0 0⟩, .un, .un, .un, .un] ⟨1, [(0, .buf 2 [(Ld.D r)])]⟩
 have hself := Ld.vl hp0
 have hq1 := r.sC
 refine aw ?_
 refine ae ?_
 refine ai [(1, ⟨_, .str _⟩)] ?_
 iterate 2 refine ae ?_
 rw [show Ld.D r = Ld.D (r.to r.rest) by rw [hself]]
 refine ae ?_
 refine iM (hc := qZ h465 hp0 (p := r.rest) hq1 (w := j5) (n := 2) (op := true) (by decide) (by decide)) ?_
 refine ae ?_
 refine bg _ ?_
 refine bg (.bool _) ?_
 iterate 2 refine ae ?_
 refine ai [(2, ⟨_, .bool _⟩), (4, ⟨_, _⟩)] ?_
 iterate 3 refine ae ?_
 refine ai [(3, ⟨_, .bool _⟩)] ?_
 refine ak (fun hc0 => ?_) (fun hc0 => ?_)
 ·try simp only [au] at hc0
  iterate 2 refine ae ?_
  obtain ⟨⟨l, q2⟩, hq⟩ := fT hc0
  have hnr : cJ j5 2 true r.rest = q2 := by simp only [cJ, hq]
  obtain ⟨hl, hlm, hq2, hqp⟩ := jL hp0 hq1 hq
  rw [hnr, hq]
  have hwp : bw r.rest = (l[1]!, q2) := by simp only [bw, hq]
  rw [hwp]
  refine ae ?_
  refine aP 1 (hb := fun _ => by omega) ?_
  refine aS (v := .str l[1]!) (hi := fun _ => by omega) ?_
  refine ae ?_
  refine ai [(1, ⟨_, .str _⟩)] ?_
  refine ae ?_
  refine dX trivial jv (Eq.trans ah (congrArg D.str ?_)) ah ah ah
  rfl
 ·try simp only [au] at hc0
  iterate 2 refine ae ?_
  have hq := fS hc0
  have hnr : cJ j5 2 true r.rest = r.rest := by simp only [cJ, hq]
  rw [hnr]
  have hwp : bw r.rest = ([], r.rest) := by simp only [bw, hq]
  rw [hwp]
  refine ae ?_
  refine ai [(1, ⟨_, .str _⟩)] ?_
  refine ae ?_
  refine dX trivial jv (Eq.trans ah (congrArg D.str ?_)) ah ah ah
  rfl
def Cu (Γ : Ctx) : Prop := ∀ (r : Ld), (r.sm) → Γ.fp 468 (Ld.D r) [] ∧ Γ.fv 468 (Ld.D r) [] = .str (bw r.rest).1 ∧ Γ.fs 468 (Ld.D r) [] = Ld.D (r.to (bw r.rest).2)
end Go.Abs
end
section
namespace Go.Abs
open Go
def dT : aI := { np := 1, ns := 12, res := [⟨1, some (3, true)⟩], rsh := [[.sl 4 [.a, .a, .sl 1 [.a], .a], .a, .a]], body := (.seq (rg [gb 3 (.c (.agg [.av, .str [], .str []]))] [(1, 0)]) (.seq (rg [gb 3 (.c (.agg [.av, .str [], .str []]))] [(8, 0)]) (.seq (.block 0 (.loop (.block 1 (.seq (rg [gm s0, gn (.callF 465 l0 [(cs [97, 110, 121]), (i6 5), (cb true)] [[.a], [.a], [.a]]), gm l1, ge l2 0, ge l2 1, gm l3, gm l4] [(4, 5), (2, 6)]) (.seq (.seq (rg [gm s2, gn (.un .not l0)] [(3, 1)]) (.cond s3 (.exit 0) .skip)) (.seq (.seq (rg [gm s4, ga 1 l0 (i6 3), gd l1, gn (cN l2 (cs [98, 97, 114, 101])), gm l3, ⟨.mv s4, some (4, true)⟩, ⟨.ia 1 l5 (i6 3), some (4, true)⟩, ⟨.ld 1 false l6, some (4, true)⟩, ⟨.bin .neq l7 (cs [102, 117, 108, 108]), some (4, true)⟩, gn (.pick l4 l8 (cb false))] [(5, 9)]) (.cond s5 (.seq (rg [gm s0, gc l0, gf 1 l1, gd l2, gn (lP l3 (i6 1)), gc l0, gf 1 l5, gt 1 l6 l4] []) (.exit 0)) .skip)) (.seq (rt [gm s4, ga 1 l0 (i6 1), gd l1, gm s4, ga 1 l3 (i6 4), gd l4, gm s4, ga 1 l6 (i6 3), gd l7, gn (bA l8 (cs [98, 97, 114, 101])), gn (.build [.str [], .str [], .av, .bool false] [(0, 1, l2), (1, 1, l5), (3, 1, l9)]), gb 4 (.c (.agg [.str [], .str [], .av, .bool false])), gt 4 kl l10] [(7, 11)]) (.seq (.seq (rg [gm s4, ga 1 l0 (i6 2), gd l1, gn (cN l2 (cs [45]))] [(6, 3)]) (.cond s6 (rg [gm s4, ga 1 l0 (i6 2), gd l1, gx 124 [l2, (cs [44])] [[.a], [.a]], gf 2 s7, gt 1 l4 l3] []) .skip)) (rg [gf 0 s8, gd l0, gk 4 true s7, gn (.bsl 4 (.agg [.str [], .str [], .av, .bool false]) 1 [(0, l2)]), gn (.app 4 l1 l3), gf 0 s8, gt 1 l5 l4] []))))))))) (.seq (rg [gm s0, gn (.callF 468 l0 [] []), gf 1 s8, gt 1 l2 l1] []) (.seq (.seq (rg [gm s0, gn (.callF 465 l0 [(cs [111, 112, 116, 105, 111, 110]), (i6 2), (cb false)] [[.a], [.a], [.a]]), gm l1, ge l2 0, ge l2 1, gm l3, gm l4] [(11, 5), (9, 6)]) (.seq (rg [gm s9] [(10, 0)]) (.cond kF (rg [gm mV, ga 1 l0 (i6 1), gd l1, gf 2 s8, gt 1 l3 l2] []) .skip))) (.seq (rg [gk 3 true s8, gt 3 s1 l0] []) .ret)))))) }
theorem vr {Γ : Ctx} (h : Cu Γ) {r : Ld} (hr : r.sm) {p : List aq} (hp : p <:+ r.ls) : Γ.fp 468 (Ld.D (r.to p)) [] ∧ Γ.fv 468 (Ld.D (r.to p)) [] = .str (bw p).1 ∧ Γ.fs 468 (Ld.D (r.to p)) [] = Ld.D (r.to (bw p).2) := by
 have := h (r.to p) (hr.to p)
 rw [Ld.rk hp] at this
 exact this
theorem w467 {Γ : Ctx} (hm : (Γ.at 1).bN) (h124 : Av (Γ.at 1)) (h465 : Ct (Γ.at 1)) (h468 : Cu (Γ.at 1)) (r : Ld)  (hp0 : r.sm) : bo (Γ.at 1) dT.body (zl dT 2 (aJ.D (c7 r.rest).1) (Ld.D (r.to (c7 r.rest).2)) : Ex → List aN → St → Prop) (bF dT (.ptr 0 2 0 0 :: [])) ⟨1, [(0, .buf 2 [(Ld.D r)])]⟩ := by
 show bo _ _ _ [⟨true, .ptr 0 2 0 0⟩, .un, .un, .un, .un, .un, .un, .un, .un, .un, .un, .un] ⟨1, [(0, .buf 2 [(Ld.D r)])]⟩
 have hself := Ld.vl hp0
 have hq0 := r.sC
 refine aw ?_
 refine aZ ?_
 refine ai [(1, ⟨_, _⟩)] ?_
 refine ae ?_
 refine aZ ?_
 refine ai [(8, ⟨_, _⟩)] ?_
 refine bz hm (ι := (List aR × List aq)) (fun p => [⟨true, .ptr 0 2 0 0⟩, ⟨true, .ptr 1 3 0 0⟩, .un, .un, .un, .un, .un, .un, ⟨true, .ptr 2 3 0 0⟩, .un, .un, .un]) (fun p => [(0, .buf 2 [Ld.D (r.to p.2)]), (1, .buf 3 [.agg [.av, .str [], .str []]]), (2, .buf 3 [.agg [.own 3 4 0 (p.1).length, .str [], .str []]]), (3, .buf 4 (p.1.map aR.N))]) 10 (fun p => p.2 <:+ r.ls ∧ p.1.length + p.2.length ≤ r.ls.length ∧ cl r.rest = (p.1 ++ (cl p.2).1, (cl p.2).2)) (fun p => p.2.length) ([], r.rest) ⟨hq0, by simpa using hq0.length_le, by simp⟩ (az.to [(1, 1), (2, 2)] ah ah aX (by refine aV.nl 0 ah ah (by rw [hself]) ah ?_; refine aV.fR ah ah ah ?_; refine aV.ni 2 ah ah (by exact ⟨_, _, rfl, ⟨_, rfl, ⟨_, _, rfl, Or.inr ⟨_, _, _, rfl⟩, ⟨_, _, rfl, ⟨rfl, rfl⟩, ⟨_, _, rfl, ⟨rfl, rfl⟩, rfl⟩⟩⟩⟩, rfl⟩) ?_; refine aV.mt ah ah ah ah ?_; exact aV.nil)) ?_
 rintro ⟨A, p⟩ ⟨hq1, hlen, hw⟩
 dsimp only at hq1 hlen hw ⊢
 have hll := hp0.1.2
 refine cW ?_ hm
 iterate 2 refine ae ?_
 refine iM (hc := qZ h465 hp0 (p := p) hq1 (w := jy) (n := 5) (op := true) (by decide) (by decide)) ?_
 refine ae ?_
 refine bg _ ?_
 refine bg (.bool _) ?_
 iterate 2 refine ae ?_
 refine ai [(2, ⟨_, .bool _⟩), (4, ⟨_, _⟩)] ?_
 iterate 3 refine ae ?_
 refine ct ?_
 refine ai [(3, ⟨_, .bool _⟩)] ?_
 refine ak (fun hc0 => ?_) (fun hc0 => ?_)
 ·simp only [Bool.not_eq_true'] at hc0
  have hq := fS hc0
  have hnr : cJ jy 5 true p = p := by simp only [cJ, hq]
  rw [hnr]
  have hw2 : cl r.rest = (A, p) := by rw [hw, vt hq, List.append_nil]
  refine ae ?_
  refine fK.other ah ?_
  iterate 2 refine ae ?_
  have hq3 := (fI p).trans hq1
  refine ae ?_
  refine iM (hc := vr h468 hp0 hq1) ?_
  refine ae ?_
  refine aM (.agg [.own 3 4 0 A.length, .str (bw p).1, .str []]) (he := by exact rfl) ?_
  refine ai [] ?_
  iterate 3 refine ae ?_
  refine iM (hc := qZ h465 hp0 (p := (bw p).2) hq3 (w := dH) (n := 2) (op := false) (by decide) (by decide)) ?_
  refine ae ?_
  refine bg _ ?_
  refine bg (.bool _) ?_
  iterate 2 refine ae ?_
  refine ai [(9, ⟨_, .bool _⟩), (11, ⟨_, _⟩)] ?_
  iterate 3 refine ae ?_
  refine ai [(10, ⟨_, .bool _⟩)] ?_
  refine ak (fun hc3 => ?_) (fun hc3 => ?_)
  ·try simp only [au] at hc3
   refine ae ?_
   obtain ⟨⟨l, q2⟩, hq⟩ := fT hc3
   have hnr : cJ dH 2 false (bw p).2 = q2 := by simp only [cJ, hq]
   obtain ⟨hl, hlm, hq2, hqp⟩ := jL hp0 hq3 hq
   rw [hnr, hq]
   obtain hl : l.length = 2 := by rcases hl with h | h; cases h; exact h
   refine ae ?_
   refine aP 1 (hb := fun _ => by omega) ?_
   refine aS (v := .str l[1]!) (hi := fun _ => by omega) ?_
   refine ae ?_
   refine aM (.agg [.own 3 4 0 A.length, .str (bw p).1, .str l[1]!]) (he := by exact rfl) ?_
   refine ai [] ?_
   have hnp : c7 r.rest = (⟨A, (bw p).1, l[1]!⟩, q2) := by simp only [c7, hw2, pQ, hq]
   rw [hnp]
   refine ij 3 (hn := bP aR.kM _) (he := by simp only [lM, gI, kL, nn, oI, cg, Nat.reduceEqDiff, if_true, if_false, and_self, true_and, and_true, false_and, and_false, Nat.zero_add, List.length_map, Nat.le_refl, List.drop_zero, aO, reduceCtorEq, List.length_cons, List.length_nil, Nat.reduceAdd, Nat.reduceLeDiff, Ld.D]; exact rfl) (hm := by simp only [lM, gI, kL, nn, oI, cg, Nat.reduceEqDiff, if_true, if_false, and_self, true_and, and_true, false_and, and_false, Nat.zero_add, List.length_map, Nat.le_refl, List.drop_zero, aO, reduceCtorEq, List.length_cons, List.length_nil, Nat.reduceAdd, Nat.reduceLeDiff, Ld.D]; exact rfl) ?_
   refine pe [(0, .buf 2 [Ld.D (r.to q2)]), (1, .buf 3 [.agg [.av, .str [], .str []]]), (2, .buf 3 [aJ.D ⟨A, (bw p).1, l[1]!⟩])] (.id ah (.id ah (.bf ah (.cons (.ag (.cons (.ss (.map fun x _ => x.wk)) (.rf _))) .nil) .nil))) ?_
   refine ae ?_
   refine bG (d := aJ.D ⟨A, (bw p).1, l[1]!⟩) ?_
   refine aM (aJ.D ⟨A, (bw p).1, l[1]!⟩) (he := by exact rfl) ?_
   refine ai [] ?_
   refine ae ?_
   refine dX trivial vc (Eq.trans ah (?_)) ah ah ah
   rfl
  ·try simp only [au] at hc3
   refine ae ?_
   have hq := fS hc3
   have hnr : cJ dH 2 false (bw p).2 = (bw p).2 := by simp only [cJ, hq]
   rw [hnr]
   have hnp : c7 r.rest = (⟨A, (bw p).1, []⟩, (bw p).2) := by simp only [c7, hw2, pQ, hq]
   rw [hnp]
   refine ij 3 (hn := bP aR.kM _) (he := by simp only [lM, gI, kL, nn, oI, cg, Nat.reduceEqDiff, if_true, if_false, and_self, true_and, and_true, false_and, and_false, Nat.zero_add, List.length_map, Nat.le_refl, List.drop_zero, aO, reduceCtorEq, List.length_cons, List.length_nil, Nat.reduceAdd, Nat.reduceLeDiff, Ld.D]; exact rfl) (hm := by simp only [lM, gI, kL, nn, oI, cg, Nat.reduceEqDiff, if_true, if_false, and_self, true_and, and_true, false_and, and_false, Nat.zero_add, List.length_map, Nat.le_refl, List.drop_zero, aO, reduceCtorEq, List.length_cons, List.length_nil, Nat.reduceAdd, Nat.reduceLeDiff, Ld.D]; exact rfl) ?_
   refine pe [(0, .buf 2 [Ld.D (r.to (bw p).2)]), (1, .buf 3 [.agg [.av, .str [], .str []]]), (2, .buf 3 [aJ.D ⟨A, (bw p).1, []⟩])] (.id ah (.id ah (.bf ah (.cons (.ag (.cons (.ss (.map fun x _ => x.wk)) (.rf _))) .nil) .nil))) ?_
   refine ae ?_
   refine bG (d := aJ.D ⟨A, (bw p).1, []⟩) ?_
   refine aM (aJ.D ⟨A, (bw p).1, []⟩) (he := by exact rfl) ?_
   refine ai [] ?_
   refine ae ?_
   refine dX trivial vc (Eq.trans ah (?_)) ah ah ah
   rfl
 ·simp only [Bool.not_eq_false'] at hc0
  obtain ⟨⟨l, q2⟩, hq⟩ := fT hc0
  have hnr : cJ jy 5 true p = q2 := by simp only [cJ, hq]
  obtain ⟨hl, hlm, hq2, hqp⟩ := jL hp0 hq1 hq
  rw [hnr, hq]
  obtain hl : l.length = 5 := by rcases hl with h | h; cases h; exact h
  iterate 4 refine ae ?_
  refine aP 3 (hb := fun _ => by omega) ?_
  refine aS (v := .str l[3]!) (hi := fun _ => by omega) ?_
  refine cn ?_
  iterate 2 refine ae ?_
  refine aP 3 (hb := fun _ => by omega) ?_
  refine aS (v := .str l[3]!) (hi := fun _ => by omega) ?_
  refine cn ?_
  refine bK ?_
  refine ai [(5, ⟨_, .bool _⟩)] ?_
  refine ak (fun hc1 => ?_) (fun hc1 => ?_)
  ·simp only [Bool.and_eq_true, Bool.not_eq_true', decide_eq_false_iff_not] at hc1
   have hho : qi l = false := by unfold qi; rw [decide_eq_false (show ¬ l[3]! = ic from hc1.1), decide_eq_false (show ¬ l[3]! = mB from hc1.2)]; rfl
   have hw2 : cl r.rest = (A, p) := by rw [hw, yj hq hho, List.append_nil]
   obtain ⟨t, hpt, _⟩ := dc hq
   iterate 2 refine ae ?_
   obtain ⟨hab1, hab2⟩ := (hp0.to q2).1
   refine ae ?_
   refine cz ?_
   refine ae ?_
   refine aj (v := .int .i64 ((r.to q2).at' : Nat)) ?_
   refine cA ?_
   refine cz ?_
   refine ae ?_
   refine aM (Ld.D (r.to p)) (he := by rw [hpt]; exact Ld.back (hpt ▸ hq1)) ?_
   refine ai [] ?_
   refine ae ?_
   refine fK.other ah ?_
   iterate 2 refine ae ?_
   have hq3 := (fI p).trans hq1
   refine ae ?_
   refine iM (hc := vr h468 hp0 hq1) ?_
   refine ae ?_
   refine aM (.agg [.own 3 4 0 A.length, .str (bw p).1, .str []]) (he := by exact rfl) ?_
   refine ai [] ?_
   iterate 3 refine ae ?_
   refine iM (hc := qZ h465 hp0 (p := (bw p).2) hq3 (w := dH) (n := 2) (op := false) (by decide) (by decide)) ?_
   refine ae ?_
   refine bg _ ?_
   refine bg (.bool _) ?_
   iterate 2 refine ae ?_
   refine ai [(9, ⟨_, .bool _⟩), (11, ⟨_, _⟩)] ?_
   iterate 3 refine ae ?_
   refine ai [(10, ⟨_, .bool _⟩)] ?_
   refine ak (fun hc3 => ?_) (fun hc3 => ?_)
   ·try simp only [au] at hc3
    refine ae ?_
    obtain ⟨⟨l, q2⟩, hq⟩ := fT hc3
    have hnr : cJ dH 2 false (bw p).2 = q2 := by simp only [cJ, hq]
    obtain ⟨hl, hlm, hq2, hqp⟩ := jL hp0 hq3 hq
    rw [hnr, hq]
    obtain hl : l.length = 2 := by rcases hl with h | h; cases h; exact h
    refine ae ?_
    refine aP 1 (hb := fun _ => by omega) ?_
    refine aS (v := .str l[1]!) (hi := fun _ => by omega) ?_
    refine ae ?_
    refine aM (.agg [.own 3 4 0 A.length, .str (bw p).1, .str l[1]!]) (he := by exact rfl) ?_
    refine ai [] ?_
    have hnp : c7 r.rest = (⟨A, (bw p).1, l[1]!⟩, q2) := by simp only [c7, hw2, pQ, hq]
    rw [hnp]
    refine ij 3 (hn := bP aR.kM _) (he := by simp only [lM, gI, kL, nn, oI, cg, Nat.reduceEqDiff, if_true, if_false, and_self, true_and, and_true, false_and, and_false, Nat.zero_add, List.length_map, Nat.le_refl, List.drop_zero, aO, reduceCtorEq, List.length_cons, List.length_nil, Nat.reduceAdd, Nat.reduceLeDiff, Ld.D]; exact rfl) (hm := by simp only [lM, gI, kL, nn, oI, cg, Nat.reduceEqDiff, if_true, if_false, and_self, true_and, and_true, false_and, and_false, Nat.zero_add, List.length_map, Nat.le_refl, List.drop_zero, aO, reduceCtorEq, List.length_cons, List.length_nil, Nat.reduceAdd, Nat.reduceLeDiff, Ld.D]; exact rfl) ?_
    refine pe [(0, .buf 2 [Ld.D (r.to q2)]), (1, .buf 3 [.agg [.av, .str [], .str []]]), (2, .buf 3 [aJ.D ⟨A, (bw p).1, l[1]!⟩])] (.id ah (.id ah (.bf ah (.cons (.ag (.cons (.ss (.map fun x _ => x.wk)) (.rf _))) .nil) .nil))) ?_
    refine ae ?_
    refine bG (d := aJ.D ⟨A, (bw p).1, l[1]!⟩) ?_
    refine aM (aJ.D ⟨A, (bw p).1, l[1]!⟩) (he := by exact rfl) ?_
    refine ai [] ?_
    refine ae ?_
    refine dX trivial vc (Eq.trans ah (?_)) ah ah ah
    rfl
   ·try simp only [au] at hc3
    refine ae ?_
    have hq := fS hc3
    have hnr : cJ dH 2 false (bw p).2 = (bw p).2 := by simp only [cJ, hq]
    rw [hnr]
    have hnp : c7 r.rest = (⟨A, (bw p).1, []⟩, (bw p).2) := by simp only [c7, hw2, pQ, hq]
    rw [hnp]
    refine ij 3 (hn := bP aR.kM _) (he := by simp only [lM, gI, kL, nn, oI, cg, Nat.reduceEqDiff, if_true, if_false, and_self, true_and, and_true, false_and, and_false, Nat.zero_add, List.length_map, Nat.le_refl, List.drop_zero, aO, reduceCtorEq, List.length_cons, List.length_nil, Nat.reduceAdd, Nat.reduceLeDiff, Ld.D]; exact rfl) (hm := by simp only [lM, gI, kL, nn, oI, cg, Nat.reduceEqDiff, if_true, if_false, and_self, true_and, and_true, false_and, and_false, Nat.zero_add, List.length_map, Nat.le_refl, List.drop_zero, aO, reduceCtorEq, List.length_cons, List.length_nil, Nat.reduceAdd, Nat.reduceLeDiff, Ld.D]; exact rfl) ?_
    refine pe [(0, .buf 2 [Ld.D (r.to (bw p).2)]), (1, .buf 3 [.agg [.av, .str [], .str []]]), (2, .buf 3 [aJ.D ⟨A, (bw p).1, []⟩])] (.id ah (.id ah (.bf ah (.cons (.ag (.cons (.ss (.map fun x _ => x.wk)) (.rf _))) .nil) .nil))) ?_
    refine ae ?_
    refine bG (d := aJ.D ⟨A, (bw p).1, []⟩) ?_
    refine aM (aJ.D ⟨A, (bw p).1, []⟩) (he := by exact rfl) ?_
    refine ai [] ?_
    refine ae ?_
    refine dX trivial vc (Eq.trans ah (?_)) ah ah ah
    rfl
  ·simp only [Bool.and_eq_false_iff, Bool.not_eq_false', decide_eq_true_eq] at hc1
   have hho : qi l = true := by
    unfold qi
    rcases hc1 with h | h
    ·rw [decide_eq_true (show l[3]! = ic from h)]; rfl
    ·rw [decide_eq_true (show l[3]! = mB from h), Bool.or_true]
   have hwy := xc hq hho
   iterate 3 refine ae ?_
   refine aP 1 (hb := fun _ => by omega) ?_
   refine aS (v := .str l[1]!) (hi := fun _ => by omega) ?_
   refine ae ?_
   refine aP 4 (hb := fun _ => by omega) ?_
   refine aS (v := .str l[4]!) (hi := fun _ => by omega) ?_
   refine ae ?_
   refine aP 3 (hb := fun _ => by omega) ?_
   refine aS (v := .str l[3]!) (hi := fun _ => by omega) ?_
   refine cH ?_
   refine b6 (.agg [.str l[1]!, .str l[4]!, .av, .bool (decide (l[3]! = ic))]) ?_
   refine aZ ?_
   refine aM (.agg [.str l[1]!, .str l[4]!, .av, .bool (decide (l[3]! = ic))]) (he := by exact rfl) ?_
   refine ai [(7, ⟨_, _⟩)] ?_
   iterate 3 refine ae ?_
   refine aP 2 (hb := fun _ => by omega) ?_
   refine aS (v := .str l[2]!) (hi := fun _ => by omega) ?_
   refine cn ?_
   refine ai [(6, ⟨_, .bool _⟩)] ?_
   refine ak (fun hc2 => ?_) (fun hc2 => ?_)
   ·try simp only [au] at hc2
    iterate 2 refine ae ?_
    refine aP 2 (hb := fun _ => by omega) ?_
    refine aS (v := .str l[2]!) (hi := fun _ => by omega) ?_
    refine ay (hc := h124 l[2]! 44 (hlm _ (cE (by omega)))) ?_
    refine ae ?_
    refine aM (aR.N (eP l)) (he := by show _ = D.agg [.str l[1]!, .str l[4]!, Fp (if l[2]! = [45] then [] else ar l[2]! 44), .bool (decide (l[3]! = ic))]; rw [if_neg hc2, Fq (mX _ _)]; exact rfl) ?_
    refine ai [] ?_
    iterate 2 refine ae ?_
    refine aj (v := .own 3 4 0 A.length) ?_
    refine bG (d := aR.N (eP l)) ?_
    refine dK [aR.N (eP l)] ?_
    refine iu (q := aR.N) (xs := A) (e := eP l) ?_
    refine ae ?_
    refine aM (.agg [.own 56 4 0 (A ++ [eP l]).length, .str [], .str []]) (he := by exact rfl) ?_
    refine bL [] ?_
    refine fK.normal ?_
    refine ae ?_
    exact ⟨(A ++ [eP l], q2), ⟨hq2, by simp only [List.length_append, List.length_cons, List.length_nil]; omega, by rw [hw, hwy]; simp⟩, by dsimp only; omega, (az.to [(1, 1), (2, 2), (56, 3)] ah ah aX (by refine aV.fR ah ah ah ?_; refine aV.fR ah ah ah ?_; refine aV.eq 2 ah ah ah ?_; refine aV.nl 56 ah ah rfl (by exact bP aR.kM _) ?_; exact aV.nil))⟩
   ·try simp only [au] at hc2
    iterate 2 refine ae ?_
    rw [show (D.agg [.str l[1]!, .str l[4]!, .av, .bool (decide (l[3]! = ic))]) = aR.N (eP l) by show _ = D.agg [.str l[1]!, .str l[4]!, Fp (if l[2]! = [45] then [] else ar l[2]! 44), .bool (decide (l[3]! = ic))]; rw [if_pos hc2]; rfl]
    refine ae ?_
    refine aj (v := .own 3 4 0 A.length) ?_
    refine bG (d := aR.N (eP l)) ?_
    refine dK [aR.N (eP l)] ?_
    refine iu (q := aR.N) (xs := A) (e := eP l) ?_
    refine ae ?_
    refine aM (.agg [.own 50 4 0 (A ++ [eP l]).length, .str [], .str []]) (he := by exact rfl) ?_
    refine bL [] ?_
    refine fK.normal ?_
    refine ae ?_
    exact ⟨(A ++ [eP l], q2), ⟨hq2, by simp only [List.length_append, List.length_cons, List.length_nil]; omega, by rw [hw, hwy]; simp⟩, by dsimp only; omega, (az.to [(1, 1), (2, 2), (50, 3)] ah ah aX (by refine aV.fR ah ah ah ?_; refine aV.fR ah ah ah ?_; refine aV.eq 2 ah ah ah ?_; refine aV.nl 50 ah ah rfl (by exact bP aR.kM _) ?_; exact aV.nil))⟩
def EF (Γ : Ctx) : Prop := ∀ (r : Ld), (r.sm) → Γ.fp 467 (Ld.D r) [] ∧ Γ.fv 467 (Ld.D r) [] = aJ.D (c7 r.rest).1 ∧ Γ.fs 467 (Ld.D r) [] = Ld.D (r.to (c7 r.rest).2)
end Go.Abs
end
namespace Go.Abs
def yo (Γ : Ctx) : Prop := ∀ (r : Ld) (w : aq) (n : Nat) (op : Bool) (l nx : Nat) (m : List (Nat × bm)) (K : D → St → Prop), r.sm → n ≤ 1000 → (op = true → 1 ≤ n) → look m l = some (.buf 2 [Ld.D r]) →
 K (.tup [tf (bC w n op r.rest), .bool (bC w n op r.rest).isSome]) ⟨nx, cw m l (.buf 2 [Ld.D (r.after (bC w n op r.rest))])⟩ → Γ.tr 465 [.ptr l 2 0 0, .str w, .int .i64 (n : Nat), .bool op] ⟨nx, m⟩ K
theorem q9 {Γ : Ctx} (h : yo Γ) {r : Ld} (hr : r.sm) {p : List aq} (hp : p <:+ r.ls) {w : aq} {n : Nat} {op : Bool} (hn : n ≤ 1000) (ho : op = true → 1 ≤ n) {nx : Nat} {m : List (Nat × bm)} {K : D → St → Prop} (hl : look m 0 = some (.buf 2 [Ld.D (r.to p)]))
  (hK : K (.tup [tf (bC w n op p), .bool (bC w n op p).isSome]) ⟨nx, cw m 0 (.buf 2 [Ld.D (r.to (cJ w n op p))])⟩) : Γ.tr 465 [.ptr 0 2 0 0, .str w, .int .i64 (n : Nat), .bool op] ⟨nx, m⟩ K := by
 refine h (r.to p) w n op 0 nx m K (hr.to p) hn ho hl ?_
 rw [Ld.rk hp, Ld.vF hp]
 exact hK
theorem Dq {Γ : Ctx} (h : EF Γ) {r : Ld} (hr : r.sm) {p : List aq} (hp : p <:+ r.ls) : Γ.fp 467 (Ld.D (r.to p)) [] ∧ Γ.fv 467 (Ld.D (r.to p)) [] = aJ.D (c7 p).1 ∧ Γ.fs 467 (Ld.D (r.to p)) [] = Ld.D (r.to (c7 p).2) := by
 have := h (r.to p) (hr.to p)
 rw [Ld.rk hp] at this
 exact this
theorem j6 : ∀ p : List aq, (cl p).2 <:+ p
 | [] => List.suffix_refl _
 | t :: r => by
  simp only [cl]
  split
  ·split
   ·exact (j6 r).trans (List.suffix_cons _ _)
   ·exact List.suffix_refl _
  ·exact List.suffix_refl _
theorem mR (p : List aq) : (c7 p).2 <:+ p := (By _).trans ((fI _).trans (j6 p))
theorem vY {p : List aq} (h : bC cO 0 false p = none) : dw p = ([], p) := by
 match p, h with
 | [], _ => rfl
 | t :: r, h =>
  simp only [bC] at h
  split at h
  ·cases h
  ·rename_i hn; simp only [dw, hn]
theorem zz {p l q : List aq} (h : bC cO 0 false p = some (l, q)) (ho : ¬ 2 ≤ l.length) : dw p = ([], p) := by
 obtain ⟨t, rfl, ht⟩ := dc h
 simp only [dw, ht, ho, if_false]
theorem xE {p l q : List aq} (h : bC cO 0 false p = some (l, q)) (ho : 2 ≤ l.length) : dw p = (⟨l[1]!, l.drop 2⟩ :: (dw q).1, (dw q).2) := by
 obtain ⟨t, rfl, ht⟩ := dc h
 simp only [dw, ht, ho, if_true]
def ek (ls : List aq) : Rec × List aq := match pX ls with
 | some p => p
 | none => (nt, ls)
def dC : D := .agg [.str [], .int .i64 0, .int .i64 0, .int .i64 0, .str [], .str [], .av, .av, .av]
theorem oU : qN dC nt.D := .ag (.cons (.refl _) (.cons (.refl _) (.cons (.refl _) (.cons (.refl _) (.cons (.refl _) (.cons (.refl _) (.cons (.nil 3) (.cons (.nil 3) (.cons (.nil 2) .nil)))))))))
def kv (nm : aq) (v : dP) (n b f : D) : D := .agg [.str nm, .int .i64 v.major, .int .i64 v.minor, .int .i64 v.patch, .str v.pre, .str v.build, n, b, f]
theorem FP {s : aq} (h : sP s = 0) : ∃ v, lL s = some v := by
 unfold sP at h
 split at h
 ·rename_i hs; exact fT hs
 ·cases h
theorem FO {s : aq} (h : ¬ sP s = 0) : lL s = none := by
 unfold sP at h
 split at h
 ·exact absurd rfl h
 ·rename_i hs; exact fS (by simpa using hs)
theorem uw (n : Nat) (op : Bool) (t : aq) : (cS n op t).length ≤ t.length + 1 := by
 have h := cY t 32
 have hp := fB 32 t []
 unfold cS
 split
 ·unfold nP
  split
  ·exact h
  ·simp only [List.length_append, List.length_take, List.length_cons, List.length_nil]
   have : 1 ≤ (ar t 32).length := hp
   omega
 ·exact h
theorem Bl {r : Ld} (hr : r.sm) {p : List aq} (hp : p <:+ r.ls) {w : aq} {n : Nat} {op : Bool} {l q : List aq} (h : bC w n op p = some (l, q)) : l.length ≤ 1048577 := by
 obtain ⟨t, rfl, ht⟩ := dc h
 obtain ⟨_, _, h3⟩ := pO ht
 have := uw n op t
 have := hr.2 t (hp.subset (.head _))
 rw [h3]; omega
end Go.Abs
