/- A part of the proofs of the statements: X15, RSpec17, W1, W4, X16, RSpec18, Y1, RSpec19, LAsmS, LInj, X1. -/
import Derived.Test.YtpdlhpamcaocgaaGreatDoorP09
set_option linter.all false
section
namespace Go.Abs
open Go
def dr : aI := { np := 1, ns := 20, res := [⟨1, some (9, true)⟩, ⟨2, none⟩], rsh := [[.a, .a, .a, .a, .a, .a, .sl 3 [.sl 4 [.a, .a, .sl 1 [.a], .a], .a, .a], .sl 3 [.a, .a, .a], .sl 2 [.a, .sl 1 [.a]]], [.a]], body := (.seq (rg [gb 9 (.c (.agg [.str [], .int .i64 0, .int .i64 0, .int .i64 0, .str [], .str [], .av, .av, .av])), gm (cb false)] [(1, 0), (2, 1)]) (.seq (rg [gm s0, gn (.mkf 1000465 [l0]), gm l1] [(3, 2)]) (.seq (rg [gm s3, gn (.callvM l0 [(cs [112, 97, 99, 107, 97, 103, 101]), (i6 3), (cb false)]), gm l1, ge l2 0, ge l2 1, gm l3, gm l4] [(6, 5), (4, 6)]) (.seq (.seq (rg [gm s4, gn (.un .not l0)] [(5, 1)]) (.cond s5 (.seq (rg [gn (.build [.str [], .int .i64 0, .int .i64 0, .int .i64 0, .str [], .str [], .av, .av, .av] []), gt 9 s1 l0, gm (cb false)] [(2, 2)]) .ret) .skip)) (.seq (rg [gm s6, ga 1 l0 (i6 2), gd l1, gx 466 [l2] [[.a]], gm l3, ge l4 0, ge l4 1, gb 5 (.c (.agg [.int .i64 0, .int .i64 0, .int .i64 0, .str [], .str []])), gt 5 l7 l5, gm l6] [(9, 7), (7, 9)]) (.seq (.seq (rg [gm s7, gn (cN l0 (i6 0))] [(8, 1)]) (.cond s8 (.seq (rg [gm s0, gc l0, gf 1 l1, gd l2, gn (lP l3 (i6 1)), gc l0, gf 1 l5, gt 1 l6 l4] []) (.seq (rg [gn (.build [.str [], .int .i64 0, .int .i64 0, .int .i64 0, .str [], .str [], .av, .av, .av] []), gt 9 s1 l0, gm (cb false)] [(2, 2)]) .ret)) .skip)) (.seq (rt [gm s6, ga 1 l0 (i6 1), gd l1, gk 5 true s9, gn (.build [.str [], .int .i64 0, .int .i64 0, .int .i64 0, .str [], .str [], .av, .av, .av] [(0, 1, l2), (1, 5, l3)]), gb 9 (.c (.agg [.str [], .int .i64 0, .int .i64 0, .int .i64 0, .str [], .str [], .av, .av, .av])), gt 9 l5 l4] [(12, 5)]) (.seq (.block 0 (.loop (.block 1 (.seq (.seq (rg [gm s3, gn (.callvM l0 [(cs [110, 101, 101, 100]), (i6 1), (cb false)]), gm l1, ge l2 0, ge l2 1, gm l3, gm l4] [(10, 6)]) (.seq (rg [gm kF, gn (.un .not l0)] [(11, 1)]) (.cond mV (.exit 0) .skip))) (rt [gf 6 jV, gn (.ldU 1 false l0), gm s0, gn (.callF 467 l2 [] []), gn (.bsl 3 (.agg [.av, .str [], .str []]) 1 [(0, l3)]), gn (.app 3 l1 l4), gf 6 jV, gt 1 l6 l5] []))))) (.seq (.block 2 (.loop (.block 3 (.seq (rg [gm s3, gn (.callvM l0 [(cs [98, 97, 114]), (i6 3), (cb true)]), gm l1, ge l2 0, ge l2 1, gm l3, gm l4] [(15, 5), (13, 6)]) (.seq (.seq (rg [gm ri, gn (.un .not l0)] [(14, 1)]) (.cond vj (.exit 2) .skip)) (rt [gf 7 jV, gn (.ldU 1 false l0), gm sE, ga 1 l2 (i6 1), gn (.ldU 1 false l3), gm sE, ga 1 l5 (i6 2), gn (.ldU 1 false l6), gm s0, gn (.callF 468 l8 [] []), gn (.build [.str [], .str [], .str []] [(0, 1, l4), (1, 1, l7), (2, 1, l9)]), gn (.bsl 3 (.agg [.str [], .str [], .str []]) 1 [(0, l10)]), gn (.app 3 l1 kl), gf 7 jV, gt 1 nB lJ] [])))))) (.seq (.block 4 (.loop (.block 5 (.seq (rg [gm s3, gn (.callvM l0 [(cs [102, 101, 97, 116, 117, 114, 101]), (i6 0), (cb false)]), gm l1, ge l2 0, ge l2 1, gm l3, gm l4] [(18, 5), (16, 6)]) (.seq (.seq (rg [gm y6, gn (.un .not l0)] [(17, 1)]) (.cond wS (.exit 4) .skip)) (.seq (.seq (rg [gm Ac, gl l0, gn (bQ l1 (i6 2))] [(19, 2)]) (.cond FH (.seq (rg [gm s0, gc l0, gf 1 l1, gd l2, gn (lP l3 (i6 1)), gc l0, gf 1 l5, gt 1 l6 l4] []) (.exit 4)) .skip)) (rt [gf 8 jV, gd l0, gm Ac, ga 1 l2 (i6 1), gd l3, gm Ac, gn (.slA 1 l5 (some (i6 2)) none), gx 469 [l6] [[.sl 1 [.a]]], gn (.build [.str [], .av] [(0, 1, l4), (1, 1, l7)]), gn (.bsl 2 (.agg [.str [], .av]) 1 [(0, l8)]), gn (.app 2 l1 l9), gf 8 jV, gt 1 kl l10] []))))))) (.seq (rg [gk 9 true jV, gt 9 s1 l0, gm (cb true)] [(2, 2)]) .ret))))))))))) }
theorem w222 {Γ : Ctx} (hm : (Γ.at 1).bN) (h466 : GD (Γ.at 1)) (h467 : EF (Γ.at 1)) (h468 : Cu (Γ.at 1)) (h469 : GG (Γ.at 1)) (h9465 : yo (Γ.at 1)) (r : Ld)  (hp0 : r.sm) : bo (Γ.at 1) dr.body (zl dr 2 (.tup [Rec.D (ek r.rest).1, .bool (pX r.rest).isSome]) (Ld.D (r.to (ek r.rest).2)) : Ex → List aN → St → Prop) (bF dr (.ptr 0 2 0 0 :: [])) ⟨1, [(0, .buf 2 [(Ld.D r)])]⟩ := by
 show bo _ _ _ [⟨true, .ptr 0 2 0 0⟩, .un, .un, .un, .un, .un, .un, .un, .un, .un, .un, .un, .un, .un, .un, .un, .un, .un, .un, .un] ⟨1, [(0, .buf 2 [(Ld.D r)])]⟩
 have hself := Ld.vl hp0
 have hq1 := r.sC
 have hll := hp0.1.2
 refine aw ?_
 refine aZ ?_
 refine ae ?_
 refine ai [(1, ⟨_, _⟩), (2, ⟨_, .bool _⟩)] ?_
 iterate 2 refine ae ?_
 refine H0 _ ?_
 refine ae ?_
 refine ai [(3, ⟨_, _⟩)] ?_
 refine ae ?_
 rw [show Ld.D r = Ld.D (r.to r.rest) by rw [hself]]
 refine ae ?_
 refine iU (n := 1000465) (as := [.ptr 0 2 0 0, .str dt, .int .i64 ((3 : Nat) : Int), .bool false]) (ι := Unit) (fun _ => True) (fun _ => .tup [tf (bC dt 3 false r.rest), .bool (bC dt 3 false r.rest).isSome]) 6 (fun _ => [(0, .buf 2 [Ld.D (r.to (cJ dt 3 false r.rest))]), (1, .buf 9 [dC])]) (fun _ _ => ?_) (hc := fun K' hK => q9 h9465 hp0 hq1 (w := dt) (n := 3) (op := false) (by decide) (by decide) ah (hK () trivial)) (hn := by decide)
 refine ae ?_
 refine bg _ ?_
 refine bg (.bool _) ?_
 iterate 2 refine ae ?_
 refine ai [(4, ⟨_, .bool _⟩), (6, ⟨_, _⟩)] ?_
 iterate 3 refine ae ?_
 refine ct ?_
 refine ai [(5, ⟨_, .bool _⟩)] ?_
 refine ak (fun hc0 => ?_) (fun hc0 => ?_)
 ·simp only [Bool.not_eq_true'] at hc0
  have hq := fS hc0
  have hnr : cJ dt 3 false r.rest = r.rest := by simp only [cJ, hq]
  rw [hnr]
  have hrp : pX r.rest = none := by simp only [pX, hq]
  have hrv : ek r.rest = (nt, r.rest) := by simp only [ek, hrp]
  rw [hrv, hrp]
  iterate 2 refine ae ?_
  refine b6 dC ?_
  refine aM dC (he := by exact rfl) ?_
  refine ae ?_
  refine ai [(2, ⟨_, .bool _⟩)] ?_
  refine pe [(0, .buf 2 [Ld.D (r.to r.rest)]), (1, .buf 9 [Rec.D nt])] (.id ah (.bf ah (.cons oU .nil) .nil)) ?_
  refine ae ?_
  refine dX trivial vc (Eq.trans ah (aY ?_ ?_)) ah ah ah
  all_goals rfl
 ·simp only [Bool.not_eq_false'] at hc0
  obtain ⟨⟨l, q0⟩, hq⟩ := fT hc0
  have hnr : cJ dt 3 false r.rest = q0 := by simp only [cJ, hq]
  obtain ⟨hl, hlm, hq0, hqp⟩ := jL hp0 hq1 hq
  rw [hnr, hq]
  obtain hl : l.length = 3 := by rcases hl with h | h; cases h; exact h
  iterate 3 refine ae ?_
  refine aP 2 (hb := fun _ => by omega) ?_
  refine aS (v := .str l[2]!) (hi := fun _ => by omega) ?_
  refine ay (hc := h466 l[2]! (hlm _ (cE (by omega)))) ?_
  refine ae ?_
  refine bg (dP.D _) ?_
  refine bg (.int _ _) ?_
  refine aZ ?_
  refine aM (dP.D ((lL l[2]!).getD iy)) (he := by exact rfl) ?_
  refine ae ?_
  refine ai [(7, ⟨_, .int _ _⟩), (9, ⟨_, _⟩)] ?_
  iterate 3 refine ae ?_
  refine bU ?_
  refine ai [(8, ⟨_, .bool _⟩)] ?_
  refine ak (fun hc1 => ?_) (fun hc1 => ?_)
  ·simp only [Bool.not_eq_true', decide_eq_false_iff_not] at hc1
   have hv := FO hc1
   have hrp : pX r.rest = none := by simp only [pX, hq, hv]
   have hrv : ek r.rest = (nt, r.rest) := by simp only [ek, hrp]
   rw [hrv, hrp]
   obtain ⟨t, hpt, _⟩ := dc hq
   iterate 2 refine ae ?_
   obtain ⟨hab1, hab2⟩ := (hp0.to q0).1
   refine ae ?_
   refine cz ?_
   refine ae ?_
   refine aj (v := .int .i64 ((r.to q0).at' : Nat)) ?_
   refine cA ?_
   refine cz ?_
   refine ae ?_
   refine aM (Ld.D (r.to r.rest)) (he := by rw [hpt]; exact Ld.back (hpt ▸ hq1)) ?_
   refine ai [] ?_
   iterate 2 refine ae ?_
   refine b6 dC ?_
   refine aM dC (he := by exact rfl) ?_
   refine ae ?_
   refine ai [(2, ⟨_, .bool _⟩)] ?_
   refine pe [(0, .buf 2 [Ld.D (r.to r.rest)]), (1, .buf 9 [Rec.D nt]), (22, .buf 5 [dP.D ((lL l[2]!).getD iy)])] (.id ah (.bf ah (.cons oU .nil) (.id ah .nil))) ?_
   refine ae ?_
   refine dX trivial vc (Eq.trans ah (aY ?_ ?_)) ah ah ah
   all_goals rfl
  ·simp only [Bool.not_eq_false', decide_eq_true_eq] at hc1
   obtain ⟨v, hv⟩ := FP hc1
   rw [hv]
   have hrp : pX r.rest = some (rz l[1]! v q0) := by simp only [pX, hq, hv]
   have hrv : ek r.rest = rz l[1]! v q0 := by simp only [ek, hrp]
   rw [hrv, hrp]
   generalize hnm : l[1]! = nm
   have hq01 := hq0.length_le
   iterate 2 refine ae ?_
   rw [← hnm]
   refine ae ?_
   refine aP 1 (hb := fun _ => by omega) ?_
   refine aS (v := .str l[1]!) (hi := fun _ => by omega) ?_
   refine bG (d := dP.D v) ?_
   refine b6 (kv l[1]! v .av .av .av) ?_
   refine aZ ?_
   refine aM (kv l[1]! v .av .av .av) (he := by exact rfl) ?_
   refine ai [(12, ⟨_, _⟩)] ?_
   rw [hnm]
   refine bz hm (ι := (List aJ × List aq)) (fun z => [⟨true, .ptr 0 2 0 0⟩, ⟨true, .ptr 1 9 0 0⟩, ⟨true, .bool false⟩, ⟨true, .fn 1000465 [.ptr 0 2 0 0]⟩, .un, .un, .un, .un, .un, .un, .un, .un, ⟨true, .ptr 2 9 0 0⟩, .un, .un, .un, .un, .un, .un, .un]) (fun z => [(0, .buf 2 [Ld.D (r.to z.2)]), (1, .buf 9 [dC]), (2, .buf 9 [kv nm v (.own 3 3 0 (z.1).length) (.av) (.av)]), (3, .buf 3 (z.1.map aJ.D))]) 10 (fun z => z.2 <:+ r.ls ∧ z.1.length + z.2.length ≤ r.ls.length ∧ ew q0 = (z.1 ++ (ew z.2).1, (ew z.2).2)) (fun z => z.2.length) ([], q0) ⟨hq0, by simpa using hq01, by simp⟩ (az.to [(1, 1), (32, 2)] ah ah aX (by refine aV.fR ah ah ah ?_; refine aV.fR ah ah ah ?_; refine aV.ni 32 ah ah (by exact ⟨_, _, rfl, ⟨_, rfl, ⟨_, _, rfl, ⟨rfl, rfl⟩, ⟨_, _, rfl, ⟨rfl, rfl⟩, ⟨_, _, rfl, ⟨rfl, rfl⟩, ⟨_, _, rfl, ⟨rfl, rfl⟩, ⟨_, _, rfl, ⟨rfl, rfl⟩, ⟨_, _, rfl, ⟨rfl, rfl⟩, ⟨_, _, rfl, Or.inr ⟨_, _, _, rfl⟩, ⟨_, _, rfl, Or.inl rfl, ⟨_, _, rfl, Or.inl rfl, rfl⟩⟩⟩⟩⟩⟩⟩⟩⟩⟩, rfl⟩) ?_; refine aV.mt ah ah ah ah ?_; exact aV.nil)) ?_
   rintro ⟨N, p⟩ ⟨hq1, hlen, hw⟩
   dsimp only at hq1 hlen hw ⊢
   refine cW ?_ hm
   iterate 3 refine ae ?_
   refine iU (n := 1000465) (as := [.ptr 0 2 0 0, .str ie, .int .i64 ((1 : Nat) : Int), .bool false]) (ι := Unit) (fun _ => True) (fun _ => .tup [tf (bC ie 1 false p), .bool (bC ie 1 false p).isSome]) 10 (fun _ => [(0, .buf 2 [Ld.D (r.to (cJ ie 1 false p))]), (1, .buf 9 [dC]), (2, .buf 9 [kv nm v (.own 3 3 0 (N).length) (.av) (.av)]), (3, .buf 3 (N.map aJ.D))]) (fun _ _ => ?_) (hc := fun K' hK => q9 h9465 hp0 hq1 (w := ie) (n := 1) (op := false) (by decide) (by decide) ah (hK () trivial)) (hn := by decide)
   refine ae ?_
   refine bg _ ?_
   refine bg (.bool _) ?_
   iterate 2 refine ae ?_
   refine ai [(10, ⟨_, .bool _⟩)] ?_
   iterate 3 refine ae ?_
   refine ct ?_
   refine ai [(11, ⟨_, .bool _⟩)] ?_
   refine ak (fun hc2 => ?_) (fun hc2 => ?_)
   ·simp only [Bool.not_eq_true'] at hc2
    have hq := fS hc2
    have hnr : cJ ie 1 false p = p := by simp only [cJ, hq]
    rw [hnr]
    have hn2 : ew q0 = (N, p) := by rw [hw, wu hq, List.append_nil]
    have hpl := hq1.length_le
    refine ae ?_
    refine fK.other ah ?_
    refine ae ?_
    refine ij 3 (hn := bP (fun _ => rfl) _) (he := by simp only [lM, gI, kL, nn, oI, cg, Nat.reduceEqDiff, if_true, if_false, and_self, true_and, and_true, false_and, and_false, Nat.zero_add, List.length_map, Nat.le_refl, List.drop_zero, aO, reduceCtorEq, List.length_cons, List.length_nil, Nat.reduceAdd, Nat.reduceLeDiff, Ld.D, dC, kv]; exact rfl) (hm := by simp only [lM, gI, kL, nn, oI, cg, Nat.reduceEqDiff, if_true, if_false, and_self, true_and, and_true, false_and, and_false, Nat.zero_add, List.length_map, Nat.le_refl, List.drop_zero, aO, reduceCtorEq, List.length_cons, List.length_nil, Nat.reduceAdd, Nat.reduceLeDiff, Ld.D, dC, kv]; exact rfl) ?_
    refine bz hm (ι := (List ec × List aq)) (fun z => [⟨true, .ptr 0 2 0 0⟩, ⟨true, .ptr 1 9 0 0⟩, ⟨true, .bool false⟩, ⟨true, .fn 1000465 [.ptr 0 2 0 0]⟩, .un, .un, .un, .un, .un, .un, .un, .un, ⟨true, .ptr 2 9 0 0⟩, .un, .un, .un, .un, .un, .un, .un]) (fun z => [(0, .buf 2 [Ld.D (r.to z.2)]), (1, .buf 9 [dC]), (2, .buf 9 [kv nm v ((.sl 3 (N.map aJ.D))) (.own 3 3 0 (z.1).length) (.av)]), (3, .buf 3 (z.1.map ec.D))]) 10 (fun z => z.2 <:+ r.ls ∧ z.1.length + z.2.length ≤ r.ls.length ∧ jz p = (z.1 ++ (jz z.2).1, (jz z.2).2)) (fun z => z.2.length) ([], p) ⟨hq1, by simpa using hpl, by simp⟩ (az.to [(1, 1), (2, 2)] ah ah aX (by refine aV.fR ah ah ah ?_; refine aV.fR ah ah ah ?_; refine aV.ni 2 ah ah (by exact ⟨_, _, rfl, ⟨_, rfl, ⟨_, _, rfl, ⟨rfl, rfl⟩, ⟨_, _, rfl, ⟨rfl, rfl⟩, ⟨_, _, rfl, ⟨rfl, rfl⟩, ⟨_, _, rfl, ⟨rfl, rfl⟩, ⟨_, _, rfl, ⟨rfl, rfl⟩, ⟨_, _, rfl, ⟨rfl, rfl⟩, ⟨_, _, rfl, ⟨rfl, rfl⟩, ⟨_, _, rfl, Or.inr ⟨_, _, _, rfl⟩, ⟨_, _, rfl, Or.inl rfl, rfl⟩⟩⟩⟩⟩⟩⟩⟩⟩⟩, rfl⟩) ?_; refine aV.mt ah ah ah ah ?_; exact aV.nil)) ?_
    rintro ⟨B, pb⟩ ⟨hq1, hlen, hw⟩
    dsimp only at hq1 hlen hw ⊢
    refine cW ?_ hm
    iterate 2 refine ae ?_
    refine iU (n := 1000465) (as := [.ptr 0 2 0 0, .str jq, .int .i64 ((3 : Nat) : Int), .bool true]) (ι := Unit) (fun _ => True) (fun _ => .tup [tf (bC jq 3 true pb), .bool (bC jq 3 true pb).isSome]) 10 (fun _ => [(0, .buf 2 [Ld.D (r.to (cJ jq 3 true pb))]), (1, .buf 9 [dC]), (2, .buf 9 [kv nm v ((.sl 3 (N.map aJ.D))) (.own 3 3 0 (B).length) (.av)]), (3, .buf 3 (B.map ec.D))]) (fun _ _ => ?_) (hc := fun K' hK => q9 h9465 hp0 hq1 (w := jq) (n := 3) (op := true) (by decide) (by decide) ah (hK () trivial)) (hn := by decide)
    refine ae ?_
    refine bg _ ?_
    refine bg (.bool _) ?_
    iterate 2 refine ae ?_
    refine ai [(13, ⟨_, .bool _⟩), (15, ⟨_, _⟩)] ?_
    iterate 3 refine ae ?_
    refine ct ?_
    refine ai [(14, ⟨_, .bool _⟩)] ?_
    refine ak (fun hc3 => ?_) (fun hc3 => ?_)
    ·simp only [Bool.not_eq_true'] at hc3
     have hq := fS hc3
     have hnr : cJ jq 3 true pb = pb := by simp only [cJ, hq]
     rw [hnr]
     have hb2 : jz p = (B, pb) := by rw [hw, xq hq, List.append_nil]
     have hpl2 := hq1.length_le
     refine ae ?_
     refine fK.other ah ?_
     refine ae ?_
     refine ij 3 (hn := bP (fun _ => rfl) _) (he := by simp only [lM, gI, kL, nn, oI, cg, Nat.reduceEqDiff, if_true, if_false, and_self, true_and, and_true, false_and, and_false, Nat.zero_add, List.length_map, Nat.le_refl, List.drop_zero, aO, reduceCtorEq, List.length_cons, List.length_nil, Nat.reduceAdd, Nat.reduceLeDiff, Ld.D, dC, kv]; exact rfl) (hm := by simp only [lM, gI, kL, nn, oI, cg, Nat.reduceEqDiff, if_true, if_false, and_self, true_and, and_true, false_and, and_false, Nat.zero_add, List.length_map, Nat.le_refl, List.drop_zero, aO, reduceCtorEq, List.length_cons, List.length_nil, Nat.reduceAdd, Nat.reduceLeDiff, Ld.D, dC, kv]; exact rfl) ?_
     refine bz hm (ι := (List ba × List aq)) (fun z => [⟨true, .ptr 0 2 0 0⟩, ⟨true, .ptr 1 9 0 0⟩, ⟨true, .bool false⟩, ⟨true, .fn 1000465 [.ptr 0 2 0 0]⟩, .un, .un, .un, .un, .un, .un, .un, .un, ⟨true, .ptr 2 9 0 0⟩, .un, .un, .un, .un, .un, .un, .un]) (fun z => [(0, .buf 2 [Ld.D (r.to z.2)]), (1, .buf 9 [dC]), (2, .buf 9 [kv nm v ((.sl 3 (N.map aJ.D))) ((.sl 3 (B.map ec.D))) (.own 3 2 0 (z.1).length)]), (3, .buf 2 (z.1.map ba.D))]) 10 (fun z => z.2 <:+ r.ls ∧ z.1.length + z.2.length ≤ r.ls.length ∧ dw pb = (z.1 ++ (dw z.2).1, (dw z.2).2)) (fun z => z.2.length) ([], pb) ⟨hq1, by simpa using hpl2, by simp⟩ (az.to [(1, 1), (2, 2)] ah ah aX (by refine aV.fR ah ah ah ?_; refine aV.fR ah ah ah ?_; refine aV.ni 2 ah ah (by exact ⟨_, _, rfl, ⟨_, rfl, ⟨_, _, rfl, ⟨rfl, rfl⟩, ⟨_, _, rfl, ⟨rfl, rfl⟩, ⟨_, _, rfl, ⟨rfl, rfl⟩, ⟨_, _, rfl, ⟨rfl, rfl⟩, ⟨_, _, rfl, ⟨rfl, rfl⟩, ⟨_, _, rfl, ⟨rfl, rfl⟩, ⟨_, _, rfl, ⟨rfl, rfl⟩, ⟨_, _, rfl, ⟨rfl, rfl⟩, ⟨_, _, rfl, Or.inr ⟨_, _, _, rfl⟩, rfl⟩⟩⟩⟩⟩⟩⟩⟩⟩⟩, rfl⟩) ?_; refine aV.mt ah ah ah ah ?_; exact aV.nil)) ?_
     rintro ⟨Z, pf⟩ ⟨hq1, hlen, hw⟩
     dsimp only at hq1 hlen hw ⊢
     refine cW ?_ hm
     iterate 2 refine ae ?_
     refine iU (n := 1000465) (as := [.ptr 0 2 0 0, .str cO, .int .i64 ((0 : Nat) : Int), .bool false]) (ι := Unit) (fun _ => True) (fun _ => .tup [tf (bC cO 0 false pf), .bool (bC cO 0 false pf).isSome]) 10 (fun _ => [(0, .buf 2 [Ld.D (r.to (cJ cO 0 false pf))]), (1, .buf 9 [dC]), (2, .buf 9 [kv nm v ((.sl 3 (N.map aJ.D))) ((.sl 3 (B.map ec.D))) (.own 3 2 0 (Z).length)]), (3, .buf 2 (Z.map ba.D))]) (fun _ _ => ?_) (hc := fun K' hK => q9 h9465 hp0 hq1 (w := cO) (n := 0) (op := false) (by decide) (by decide) ah (hK () trivial)) (hn := by decide)
     refine ae ?_
     refine bg _ ?_
     refine bg (.bool _) ?_
     iterate 2 refine ae ?_
     refine ai [(16, ⟨_, .bool _⟩), (18, ⟨_, _⟩)] ?_
     iterate 3 refine ae ?_
     refine ct ?_
     refine ai [(17, ⟨_, .bool _⟩)] ?_
     refine ak (fun hc4 => ?_) (fun hc4 => ?_)
     ·simp only [Bool.not_eq_true'] at hc4
      have hq := fS hc4
      have hnr : cJ cO 0 false pf = pf := by simp only [cJ, hq]
      rw [hnr]
      have hf2 : dw pb = (Z, pf) := by rw [hw, vY hq, List.append_nil]
      refine ae ?_
      refine fK.other ah ?_
      refine ae ?_
      have hbd : rz nm v q0 = (⟨nm, v, N, B, Z⟩, pf) := by simp only [rz, hn2, hb2, hf2]
      rw [hbd]
      refine ij 3 (hn := bP (fun _ => rfl) _) (he := by simp only [lM, gI, kL, nn, oI, cg, Nat.reduceEqDiff, if_true, if_false, and_self, true_and, and_true, false_and, and_false, Nat.zero_add, List.length_map, Nat.le_refl, List.drop_zero, aO, reduceCtorEq, List.length_cons, List.length_nil, Nat.reduceAdd, Nat.reduceLeDiff, Ld.D, dC, kv]; exact rfl) (hm := by simp only [lM, gI, kL, nn, oI, cg, Nat.reduceEqDiff, if_true, if_false, and_self, true_and, and_true, false_and, and_false, Nat.zero_add, List.length_map, Nat.le_refl, List.drop_zero, aO, reduceCtorEq, List.length_cons, List.length_nil, Nat.reduceAdd, Nat.reduceLeDiff, Ld.D, dC, kv]; exact rfl) ?_
      refine ae ?_
      refine bG (d := Rec.D ⟨nm, v, N, B, Z⟩) ?_
      refine aM (Rec.D ⟨nm, v, N, B, Z⟩) (he := by exact rfl) ?_
      refine ae ?_
      refine ai [(2, ⟨_, .bool _⟩)] ?_
      refine ae ?_
      refine dX trivial vc (Eq.trans ah (aY ?_ ?_)) ah ah ah
      all_goals rfl
     ·simp only [Bool.not_eq_false'] at hc4
      obtain ⟨⟨l, q2⟩, hq⟩ := fT hc4
      have hnr : cJ cO 0 false pf = q2 := by simp only [cJ, hq]
      obtain ⟨hl, hlm, hq2, hqp⟩ := jL hp0 hq1 hq
      rw [hnr, hq]
      have hll2 := Bl hp0 hq1 hq
      iterate 4 refine ae ?_
      refine aC fun u0 => ?_; specialize u0 rfl rfl
      refine aW ?_
      refine ai [(19, ⟨_, .bool _⟩)] ?_
      refine ak (fun hc5 => ?_) (fun hc5 => ?_)
      ·try simp only [au] at hc5
       iterate 2 refine ae ?_
       have hf2 : dw pb = (Z, pf) := by rw [hw, zz hq (by omega), List.append_nil]
       obtain ⟨t, hpt, _⟩ := dc hq
       obtain ⟨hab1, hab2⟩ := (hp0.to q2).1
       refine ae ?_
       refine cz ?_
       refine ae ?_
       refine aj (v := .int .i64 ((r.to q2).at' : Nat)) ?_
       refine cA ?_
       refine cz ?_
       refine ae ?_
       refine aM (Ld.D (r.to pf)) (he := by rw [hpt]; exact Ld.back (hpt ▸ hq1)) ?_
       refine ai [] ?_
       refine ae ?_
       refine fK.other ah ?_
       refine ae ?_
       have hbd : rz nm v q0 = (⟨nm, v, N, B, Z⟩, pf) := by simp only [rz, hn2, hb2, hf2]
       rw [hbd]
       refine ij 3 (hn := bP (fun _ => rfl) _) (he := by simp only [lM, gI, kL, nn, oI, cg, Nat.reduceEqDiff, if_true, if_false, and_self, true_and, and_true, false_and, and_false, Nat.zero_add, List.length_map, Nat.le_refl, List.drop_zero, aO, reduceCtorEq, List.length_cons, List.length_nil, Nat.reduceAdd, Nat.reduceLeDiff, Ld.D, dC, kv]; exact rfl) (hm := by simp only [lM, gI, kL, nn, oI, cg, Nat.reduceEqDiff, if_true, if_false, and_self, true_and, and_true, false_and, and_false, Nat.zero_add, List.length_map, Nat.le_refl, List.drop_zero, aO, reduceCtorEq, List.length_cons, List.length_nil, Nat.reduceAdd, Nat.reduceLeDiff, Ld.D, dC, kv]; exact rfl) ?_
       refine ae ?_
       refine bG (d := Rec.D ⟨nm, v, N, B, Z⟩) ?_
       refine aM (Rec.D ⟨nm, v, N, B, Z⟩) (he := by exact rfl) ?_
       refine ae ?_
       refine ai [(2, ⟨_, .bool _⟩)] ?_
       refine ae ?_
       refine dX trivial vc (Eq.trans ah (aY ?_ ?_)) ah ah ah
       all_goals rfl
      ·try simp only [au] at hc5
       iterate 2 refine ae ?_
       have h2l : 2 ≤ l.length := by omega
       refine ae ?_
       refine aj (v := .own 3 2 0 Z.length) ?_
       refine ae ?_
       refine aP 1 (hb := fun _ => by omega) ?_
       refine aS (v := .str l[1]!) (hi := fun _ => by omega) ?_
       refine ae ?_
       refine wL 2 (hb := fun _ => by omega) ?_
       refine ay (hc := h469 (l.drop 2) (by rw [List.length_drop]; omega)) ?_
       refine b6 (ba.D ⟨l[1]!, l.drop 2⟩) ?_
       refine dK [ba.D ⟨l[1]!, l.drop 2⟩] ?_
       refine iu (q := ba.D) (xs := Z) (e := ⟨l[1]!, l.drop 2⟩) ?_
       refine ae ?_
       refine aM (kv nm v (.sl 3 (N.map aJ.D)) (.sl 3 (B.map ec.D)) (.own 32 2 0 (Z ++ [(⟨l[1]!, l.drop 2⟩ : ba)]).length)) (he := by exact rfl) ?_
       refine bL [] ?_
       refine fK.normal ?_
       refine ae ?_
       have hsl := Nat.le_refl 0
       exact ⟨(Z ++ [⟨l[1]!, l.drop 2⟩], q2), ⟨hq2, by simp only [List.length_append, List.length_cons, List.length_nil]; omega, by rw [hw, xE hq h2l]; simp⟩, by dsimp only; omega, (az.to [(1, 1), (2, 2), (32, 3)] ah ah aX (by refine aV.fR ah ah ah ?_; refine aV.fR ah ah ah ?_; refine aV.eq 2 ah ah ah ?_; refine aV.nl 32 ah ah rfl (by exact bP (fun _ => rfl) _) ?_; exact aV.nil))⟩
    ·simp only [Bool.not_eq_false'] at hc3
     obtain ⟨⟨l, q2⟩, hq⟩ := fT hc3
     have hnr : cJ jq 3 true pb = q2 := by simp only [cJ, hq]
     obtain ⟨hl, hlm, hq2, hqp⟩ := jL hp0 hq1 hq
     rw [hnr, hq]
     obtain hl : l.length = 3 := by rcases hl with h | h; cases h; exact h
     iterate 3 refine ae ?_
     refine BU (v := .own 3 3 0 B.length) ?_
     refine ae ?_
     refine aP 1 (hb := fun _ => by omega) ?_
     refine BV (v := .str l[1]!) (hi := fun _ => by omega) ?_
     refine ae ?_
     refine aP 2 (hb := fun _ => by omega) ?_
     refine BV (v := .str l[2]!) (hi := fun _ => by omega) ?_
     refine ae ?_
     refine iM (hc := vr h468 hp0 hq2) ?_
     refine b6 (ec.D ⟨l[1]!, l[2]!, (bw q2).1⟩) ?_
     refine dK [ec.D ⟨l[1]!, l[2]!, (bw q2).1⟩] ?_
     refine iu (q := ec.D) (xs := B) (e := ⟨l[1]!, l[2]!, (bw q2).1⟩) ?_
     refine ae ?_
     refine aM (kv nm v (.sl 3 (N.map aJ.D)) (.own 31 3 0 (B ++ [(⟨l[1]!, l[2]!, (bw q2).1⟩ : ec)]).length) .av) (he := by exact rfl) ?_
     refine bL [] ?_
     refine fK.normal ?_
     refine ae ?_
     have hsl := (fI q2).length_le
     exact ⟨(B ++ [⟨l[1]!, l[2]!, (bw q2).1⟩], (bw q2).2), ⟨(fI q2).trans hq2, by simp only [List.length_append, List.length_cons, List.length_nil]; omega, by rw [hw, xr hq]; simp⟩, by dsimp only; omega, (az.to [(1, 1), (2, 2), (31, 3)] ah ah aX (by refine aV.fR ah ah ah ?_; refine aV.fR ah ah ah ?_; refine aV.eq 2 ah ah ah ?_; refine aV.nl 31 ah ah rfl (by exact bP (fun _ => rfl) _) ?_; exact aV.nil))⟩
   ·simp only [Bool.not_eq_false'] at hc2
    obtain ⟨⟨l, q2⟩, hq⟩ := fT hc2
    have hnr : cJ ie 1 false p = q2 := by simp only [cJ, hq]
    obtain ⟨hl, hlm, hq2, hqp⟩ := jL hp0 hq1 hq
    rw [hnr, hq]
    iterate 3 refine ae ?_
    refine BU (v := .own 3 3 0 N.length) ?_
    refine ae ?_
    refine iM (hc := Dq h467 hp0 hq2) ?_
    refine dK [aJ.D (c7 q2).1] ?_
    refine iu (q := aJ.D) (xs := N) (e := (c7 q2).1) ?_
    refine ae ?_
    refine aM (kv nm v (.own 24 3 0 (N ++ [(c7 q2).1]).length) .av .av) (he := by exact rfl) ?_
    refine bL [] ?_
    refine fK.normal ?_
    refine ae ?_
    have hsl := (mR q2).length_le
    exact ⟨(N ++ [(c7 q2).1], (c7 q2).2), ⟨(mR q2).trans hq2, by simp only [List.length_append, List.length_cons, List.length_nil]; omega, by rw [hw, wv hq]; simp⟩, by dsimp only; omega, (az.to [(1, 1), (2, 2), (24, 3)] ah ah aX (by refine aV.fR ah ah ah ?_; refine aV.fR ah ah ah ?_; refine aV.eq 2 ah ah ah ?_; refine aV.nl 24 ah ah rfl (by exact bP (fun _ => rfl) _) ?_; exact aV.nil))⟩
def Gi (Γ : Ctx) : Prop := ∀ (r : Ld), (r.sm) → Γ.fp 222 (Ld.D r) [] ∧ Γ.fv 222 (Ld.D r) [] = .tup [Rec.D (ek r.rest).1, .bool (pX r.rest).isSome] ∧ Γ.fs 222 (Ld.D r) [] = Ld.D (r.to (ek r.rest).2)
end Go.Abs
end
namespace Go.Abs
def uA (p : List aq) : Prop := ∀ t ∈ p, t.length ≤ 1048576
theorem uA.get {l : List aq} (h : uA l) (i : Nat) : l[i]!.length ≤ 1048576 := by
 rcases Nat.lt_or_ge i l.length with hi | hi
 ·exact h _ (cE hi)
 ·simp [hi]; exact Nat.zero_le _
theorem uA.next {p : List aq} (hp : uA p) {w : aq} {n : Nat} {op : Bool} {l q : List aq} (h : bC w n op p = some (l, q)) : uA l ∧ uA q ∧ l.length ≤ 1048577 := by
 obtain ⟨t, rfl, ht⟩ := dc h
 obtain ⟨_, _, h3⟩ := pO ht
 have h0 := hp t (.head _)
 refine ⟨fun u hu => ?_, fun u hu => hp u (.tail _ hu), ?_⟩
 ·rw [h3] at hu; have := xd hu; omega
 ·have := uw n op t; rw [h3]; omega
theorem uA.DS {p q : List aq} (hp : uA p) (h : q <:+ p) : uA q := fun t ht => hp t (h.subset ht)
theorem An {l : List aq} (h : uA l) : (eP l).sm := by
 refine ⟨⟨h.get 1, h.get 4⟩, fun t ht => ?_⟩
 unfold eP at ht
 simp only at ht
 split at ht
 ·cases ht
 ·have := dd _ _ ht
  have := h.get 2
  omega
theorem yP {w : aq} {n : Nat} {op : Bool} {t : aq} {r l : List aq} (h : jg w n op t = some l) : bC w n op (t :: r) = some (l, r) := by simp only [bC, h]
theorem sR : ∀ p : List aq, uA p → ∀ x ∈ (cl p).1, x.sm
 | [], _, x, hx => by simp [cl] at hx
 | t :: r, hp, x, hx => by
  have ih := sR r (fun u hu => hp u (.tail _ hu))
  simp only [cl] at hx
  split at hx
  ·rename_i l hl
   split at hx
   ·simp only [List.mem_cons] at hx
    rcases hx with rfl | hx
    ·exact An (hp.next (yP (r := r) hl)).1
    ·exact ih x hx
   ·simp at hx
  ·simp at hx
theorem xb {p : List aq} (hp : uA p) : (bw p).1.length ≤ 1048576 := by
 unfold bw
 split
 ·rename_i h; exact (hp.next h).1.get 1
 ·simp
theorem Dw {p : List aq} (hp : uA p) : (pQ p).1.length ≤ 1048576 := by
 unfold pQ
 split
 ·rename_i h; exact (hp.next h).1.get 1
 ·simp
theorem Bi {p : List aq} (hp : uA p) : (c7 p).1.sm := ⟨sR p hp, xb (hp.DS (j6 p)), Dw ((hp.DS (j6 p)).DS (fI _))⟩
theorem tQ : ∀ (f : Nat) (p : List aq), uA p → (∀ x ∈ (iq f p).1, x.sm) ∧ (iq f p).2 <:+ p
 | 0, p, _ => ⟨fun x hx => by simp [iq] at hx, List.suffix_refl _⟩
 | f + 1, p, hp => by
  simp only [iq]
  split
  ·rename_i l r h
   have hr := (hp.next h).2.1
   obtain ⟨i1, i2⟩ := tQ f (c7 r).2 (hr.DS (mR r))
   refine ⟨fun x hx => ?_, i2.trans ((mR r).trans (ku h))⟩
   simp only [List.mem_cons] at hx
   rcases hx with rfl | hx
   ·exact Bi hr
   ·exact i1 x hx
  ·exact ⟨fun x hx => by simp at hx, List.suffix_refl _⟩
theorem vO : ∀ (f : Nat) (p : List aq), uA p → (∀ x ∈ (lB f p).1, x.sm) ∧ (lB f p).2 <:+ p
 | 0, p, _ => ⟨fun x hx => by simp [lB] at hx, List.suffix_refl _⟩
 | f + 1, p, hp => by
  simp only [lB]
  split
  ·rename_i l r h
   obtain ⟨hl, hr, _⟩ := hp.next h
   obtain ⟨i1, i2⟩ := vO f (bw r).2 (hr.DS (fI r))
   refine ⟨fun x hx => ?_, i2.trans ((fI r).trans (ku h))⟩
   simp only [List.mem_cons] at hx
   rcases hx with rfl | hx
   ·exact ⟨hl.get 1, hl.get 2, xb hr⟩
   ·exact i1 x hx
  ·exact ⟨fun x hx => by simp at hx, List.suffix_refl _⟩
theorem tA : ∀ (p : List aq), uA p → (∀ x ∈ (dw p).1, x.sm) ∧ (dw p).2 <:+ p
 | [], _ => ⟨fun x hx => by simp [dw] at hx, List.suffix_refl _⟩
 | t :: r, hp => by
  obtain ⟨i1, i2⟩ := tA r (fun u hu => hp u (.tail _ hu))
  simp only [dw]
  split
  ·rename_i l hl
   obtain ⟨hlm, _, hll⟩ := hp.next (yP (r := r) hl)
   split
   ·refine ⟨fun x hx => ?_, i2.trans (List.suffix_cons _ _)⟩
    simp only [List.mem_cons] at hx
    rcases hx with rfl | hx
    ·refine ⟨hlm.get 1, ?_, fun u hu => hlm u (List.mem_of_mem_drop hu)⟩
     simp only [List.length_drop]; omega
    ·exact i1 x hx
   ·exact ⟨fun x hx => by simp at hx, List.suffix_refl _⟩
  ·exact ⟨fun x hx => by simp at hx, List.suffix_refl _⟩
theorem yW : kD nt := ⟨⟨by decide, by decide, by decide⟩, fun n hn => (by cases hn), fun n hn => (by cases hn), fun n hn => (by cases hn)⟩
theorem DH {p : List aq} (hp : uA p) : kD (ek p).1 ∧ (ek p).2 <:+ p := by
 unfold ek pX
 cases h : bC dt 3 false p with
 | none => exact ⟨yW, List.suffix_refl _⟩
 | some lq =>
  obtain ⟨l, r⟩ := lq
  obtain ⟨hl, hr, _⟩ := hp.next h
  simp only
  cases hv : lL l[2]! with
  | none => exact ⟨yW, List.suffix_refl _⟩
  | some v =>
   have hvs := DW (hl.get 2)
   rw [hv] at hvs
   obtain ⟨n1, n2⟩ := tQ r.length r hr
   obtain ⟨b1, b2⟩ := vO (ew r).2.length (ew r).2 (hr.DS n2)
   obtain ⟨f1, f2⟩ := tA (jz (ew r).2).2 ((hr.DS n2).DS b2)
   exact ⟨⟨⟨hl.get 1, hvs⟩, n1, b1, f1⟩, f2.trans (b2.trans (n2.trans (ku h)))⟩
def fX (s : aq) : Rec × Int × Int :=
 if 4096 < s.length then (nt, 3, 0)
 else
  let ls := (ar s 10).take ((ar s 10).length - 1)
  if (pX ls).isSome = false ∨ (ek ls).2 ≠ [] ∨ (ar s 10)[(ar s 10).length - 1]! ≠ [] then (nt, 2, ((ls.length - (ek ls).2.length : Nat) : Int) + 1)
  else if (cC (ek ls).1).1 ≠ 0 then (nt, (cC (ek ls).1).1, 0)
  else ((ek ls).1, 0, 0)
end Go.Abs
section
namespace Go.Abs
open Go
def jT : aI := { np := 3, ns := 8, res := [⟨3, none⟩], rsh := [[.a]], body := (.seq (rg [gb 9 s0, gm (i6 0)] [(5, 0), (3, 1)]) (.seq (.block 0 (.seq (rg [gm s1, gx 208 [l0] [[.a]], gn (.un .not l1), gm l2] [(4, 3)]) (.cond s4 (.seq (rg [gm (i6 4)] [(3, 0)]) .ret) (.seq (rg [gm s1, gf 0 s5, gd l1, gn (bA l0 l2), gm l3] [(6, 4)]) (.cond s6 (.seq (rg [gm (i6 8)] [(3, 0)]) .ret) (.seq (rg [gm s2, gx 444 [l0] [[.a]], gn (.un .not l1), gm l2] [(7, 3)]) (.cond s7 (.seq (rg [gm (i6 6)] [(3, 0)]) .ret) .skip))))))) (.seq (rg [gm (i6 0)] [(3, 0)]) .ret))) }
theorem w211 {Γ : Ctx} (hm : (Γ.at 0).bN) (h208 : Cr (Γ.at 0)) (h444 : Gy (Γ.at 0)) (r : Rec) (name : aq) (rng : aq)  (hp0 : rng.length ≤ 1048576) : bo (Γ.at 0) jT.body (eC jT (.int .i64 (kJ r name rng)) : Ex → List aN → St → Prop) (bF jT [Rec.D r, .str name, .str rng]) ⟨0, []⟩ := by
 show bo _ _ _ [⟨true, Rec.D r⟩, ⟨true, .str name⟩, ⟨true, .str rng⟩, .un, .un, .un, .un, .un] ⟨0, []⟩
 refine aw ?_
 refine aZ ?_
 refine ae ?_
 refine ai [(3, ⟨_, .int _ _⟩), (5, ⟨_, _⟩)] ?_
 refine ax ?_ hm
 iterate 2 refine ae ?_
 refine ay (hc := h208 _) ?_
 refine ct ?_
 refine ae ?_
 refine ai [(4, ⟨_, .bool _⟩)] ?_
 refine wp_cond (fun hc0 => ?_) (fun hc0 => ?_)
 ·try simp only [au] at hc0
  iterate 2 refine ae ?_
  refine ai [(3, ⟨_, .int _ _⟩)] ?_
  iterate 2 refine ae ?_
  refine aB (congrArg (D.int .i64) ?_)
  rw [kJ, if_pos hc0]
 ·try simp only [au] at hc0
  iterate 3 refine ae ?_
  refine aj (v := (.str _)) ?_
  refine cH ?_
  refine ae ?_
  refine ai [(6, ⟨_, .bool _⟩)] ?_
  refine wp_cond (fun hc1 => ?_) (fun hc1 => ?_)
  ·try simp only [au] at hc1
   iterate 2 refine ae ?_
   refine ai [(3, ⟨_, .int _ _⟩)] ?_
   iterate 2 refine ae ?_
   refine aB (congrArg (D.int .i64) ?_)
   rw [kJ, if_neg (by simp [hc0]), if_pos hc1]
  ·try simp only [au] at hc1
   iterate 2 refine ae ?_
   refine ay (hc := h444 rng hp0) ?_
   refine ct ?_
   refine ae ?_
   refine ai [(7, ⟨_, .bool _⟩)] ?_
   refine wp_cond (fun hc2 => ?_) (fun hc2 => ?_)
   ·try simp only [au] at hc2
    iterate 2 refine ae ?_
    refine ai [(3, ⟨_, .int _ _⟩)] ?_
    iterate 2 refine ae ?_
    refine aB (congrArg (D.int .i64) ?_)
    rw [kJ, if_neg (by simp [hc0]), if_neg hc1, if_pos hc2]
   ·try simp only [au] at hc2
    iterate 4 refine ae ?_
    refine ai [(3, ⟨_, .int _ _⟩)] ?_
    refine ae ?_
    refine aB (congrArg (D.int .i64) ?_)
    rw [kJ, if_neg (by simp [hc0]), if_neg hc1, if_neg (by simp [hc2])]
def Ev (Γ : Ctx) : Prop := ∀ (r : Rec) (name : aq) (rng : aq), (rng.length ≤ 1048576) → Γ.pre 211 [Rec.D r, .str name, .str rng] ∧ Γ.val 211 [Rec.D r, .str name, .str rng] = .int .i64 (kJ r name rng)
def jU : aI := { np := 3, ns := 16, res := [⟨3, none⟩], rsh := [[.a]], body := (.seq (rg [gb 9 s0, gb 4 s1, gm (i6 0)] [(4, 0), (5, 1), (3, 2)]) (.seq (.seq (rg [gk 9 true s4, gf 0 s5, gd l1, gf 1 s5, gd l3, gx 211 [l0, l2, l4] [[.a, .a, .a, .a, .a, .a, .sl 3 [.sl 4 [.a, .a, .sl 1 [.a], .a], .a, .a], .sl 3 [.a, .a, .a], .sl 2 [.a, .sl 1 [.a]]], [.a], [.a]], gm l5] [(6, 6)]) (.seq (rg [gm s6, gn (cN l0 (i6 0))] [(7, 1)]) (.cond s7 (.seq (rg [gm s6, gm l0] [(3, 1)]) .ret) .skip))) (.seq (.seq (rg [gf 2 s5, gd l0, gl l1, gn (fN l2 (i6 6)), gm l3, ⟨.fa 2 s5, some (4, false)⟩, ⟨.ld 1 false l5, some (4, false)⟩, ⟨.len l6, some (4, false)⟩, ⟨.bin .gtr l7 (i6 0), some (4, false)⟩, ⟨.mv l8, some (4, false)⟩, ⟨.mv s2, some (9, true)⟩, ⟨.un .not l10, some (9, true)⟩, ⟨.pick l9 kl (cb false), some (4, false)⟩, gn (.pick l4 (cb true) lJ)] [(8, 13)]) (.cond s8 (.seq (rg [gm (i6 11)] [(3, 0)]) .ret) .skip)) (.seq (.seq (rg [gf 2 s5, gd l0, gl l1, gm (i6 0)] [(12, 1), (10, 2), (9, 3)]) (.block 0 (.loop (.seq (rg [gn (bQ s9 kF)] [(11, 0)]) (.seq (.cond mV .skip (.exit 0)) (.seq (.block 1 (.seq (rg [gm s9, ga 1 jV s9, gd l1, gm l0, gm l2] [(14, 3), (13, 4)]) (.seq (rg [gm ri, gx 349 [l0] [[.a]], gn (.un .not l1), gm l2, ⟨.mv vj, some (3, false)⟩, ⟨.bin .gtr l4 (i6 0), some (3, false)⟩, ⟨.mv l5, some (3, false)⟩, ⟨.fa 2 s5, some (6, true)⟩, ⟨.ld 1 false l7, some (6, true)⟩, ⟨.mv vj, some (6, true)⟩, ⟨.bin .sub l9 (i6 1), some (6, true)⟩, ⟨.ia 1 l8 l10, some (6, true)⟩, ⟨.ld 1 false kl, some (6, true)⟩, ⟨.mv ri, some (6, true)⟩, ⟨.bin .geq lJ nB, some (6, true)⟩, ⟨.pick l6 nW (cb false), some (3, false)⟩, gn (.pick l3 (cb true) oN)] [(15, 16)]) (.cond sE (.seq (rg [gm (i6 11)] [(3, 0)]) .ret) .skip)))) (rg [gn (bh s9 (i6 1)), gm l0] [(9, 1)]))))))) (.seq (rg [gm (i6 0)] [(3, 0)]) .ret))))) }
theorem w443 {Γ : Ctx} (hm : (Γ.at 0).bN) (h211 : Ev (Γ.at 0)) (h349 : xh (Γ.at 0)) (r : Rec) (w : aR) (al : Bool)  (hp0 : w.sm) : bo (Γ.at 0) jU.body (eC jU (.int .i64 (lF r w al)) : Ex → List aN → St → Prop) (bF jU [Rec.D r, aR.D w, .bool al]) ⟨0, []⟩ := by
 show bo _ _ _ [⟨true, Rec.D r⟩, ⟨true, aR.D w⟩, ⟨true, .bool al⟩, .un, .un, .un, .un, .un, .un, .un, .un, .un, .un, .un, .un, .un] ⟨0, []⟩
 refine aw ?_
 refine aZ ?_
 refine aZ ?_
 refine ae ?_
 refine ai [(3, ⟨_, .int _ _⟩), (4, ⟨_, _⟩), (5, ⟨_, _⟩)] ?_
 iterate 2 refine ae ?_
 refine bG ?_
 refine ae ?_
 refine aj (v := (.str _)) ?_
 refine ae ?_
 refine aj (v := (.str _)) ?_
 refine ay (hc := h211 r w.name w.range hp0.1.2) ?_
 refine ae ?_
 refine ai [(6, ⟨_, .int _ _⟩)] ?_
 iterate 3 refine ae ?_
 refine bU ?_
 refine ai [(7, ⟨_, .bool _⟩)] ?_
 refine ak (fun hc0 => ?_) (fun hc0 => ?_)
 ·try simp only [au] at hc0
  iterate 4 refine ae ?_
  refine ai [(3, ⟨_, .int _ _⟩)] ?_
  refine ae ?_
  refine aB (congrArg (D.int .i64) ?_)
  rw [lF, if_pos hc0]
 ·try simp only [au] at hc0
  iterate 4 refine ae ?_
  first | refine aj (v := .sl _ _) ?_ | refine aj (v := .own _ _ _ _) ?_ | refine aj (v := .av) ?_
  refine aC fun u0 => ?_; specialize u0 rfl rfl
  refine bE ?_
  iterate 2 refine ae ?_
  first | refine aj (v := .sl _ _) ?_ | refine aj (v := .own _ _ _ _) ?_ | refine aj (v := .av) ?_
  refine aC fun _ => ?_
  refine bE ?_
  iterate 2 refine ae ?_
  refine ct ?_
  refine bK ?_
  refine bY ?_
  refine ai [(8, ⟨_, .bool _⟩)] ?_
  refine ak (fun hc1 => ?_) (fun hc1 => ?_)
  ·have hq : (decide (w.feats.length ≤ 6) && (al || decide (w.feats.length = 0))) = false := by rw [← Bool.not_eq_true', ← Cb]; exact hc1
   iterate 3 refine ae ?_
   refine ai [(3, ⟨_, .int _ _⟩)] ?_
   refine ae ?_
   refine aB (congrArg (D.int .i64) ?_)
   rw [lF, if_neg (by simp [hc0]), if_pos (by unfold pc; rw [hq]; rfl)]
  ·have hq : (decide (w.feats.length ≤ 6) && (al || decide (w.feats.length = 0))) = true := by rw [← Bool.not_eq_false', ← Cb]; exact hc1
   iterate 4 refine ae ?_
   first | refine aj (v := .sl _ _) ?_ | refine aj (v := .own _ _ _ _) ?_ | refine aj (v := .av) ?_
   refine aC fun u1 => ?_; specialize u1 rfl rfl
   refine ae ?_
   refine ai [(9, ⟨_, .int _ _⟩), (10, ⟨_, .int _ _⟩), (12, ⟨_, .sl _ _⟩)] ?_
   refine bz hm (ι := Nat) (fun i => [.un, .un, ⟨true, .bool al⟩, .un, ⟨true, .ptr 0 9 0 0⟩, ⟨true, .ptr 1 4 0 0⟩, .un, .un, .un, ⟨true, .int .i64 (i : Nat)⟩, ⟨true, .int .i64 (w.feats.length : Nat)⟩, .un, ⟨true, .sl 1 (w.feats.map D.str)⟩, .un, .un, .un]) (fun i => [(0, .buf 9 [Rec.D r]), (1, .buf 4 [aR.D w])]) 30 (fun i => i ≤ w.feats.length ∧ pc w.feats al = bO (FQ w.feats) i w.feats.length) (fun i => w.feats.length - i) 0 ⟨by omega, by unfold pc; rw [hq, Bool.true_and]⟩ (az.to [(0, 0), (1, 1)] ah ah aX bJ) ?_
   rintro i ⟨hi, hr⟩
   refine ae ?_
   refine aW ?_
   refine ai [(11, ⟨_, .bool _⟩)] ?_
   refine ak (fun hc2 => ?_) (fun hc2 => ?_)
   ·try simp only [au] at hc2
    refine ae ?_
    refine ax ?_ hm
    iterate 2 refine ae ?_
    first | refine aP _ ?_ | refine br ?_
    first | refine aS (v := (.str _)) ?_ | refine bH (v := (.str _)) ?_
    iterate 2 refine ae ?_
    refine ai [(13, ⟨_, .str _⟩), (14, ⟨_, .int _ _⟩)] ?_
    iterate 2 refine ae ?_
    refine ay (hc := h349 _) ?_
    refine ct ?_
    iterate 2 refine ae ?_
    refine bE ?_
    iterate 2 refine ae ?_
    first | refine aj (v := .sl _ _) ?_ | refine aj (v := .own _ _ _ _) ?_ | refine aj (v := .av) ?_
    refine ae ?_
    refine cA ?_
    refine aP (i - 1) ?_
    first | refine aS (v := (.str _)) ?_ | refine bH (v := (.str _)) ?_
    refine ae ?_
    refine xY ?_
    refine bK ?_
    refine bY ?_
    refine ai [(15, ⟨_, .bool _⟩)] ?_
    refine wp_cond (fun hc3 => ?_) (fun hc3 => ?_)
    ·have hz : FQ w.feats i = false := by rw [← Bool.not_eq_true', ← Ih]; exact hc3
     iterate 2 refine ae ?_
     refine ai [(3, ⟨_, .int _ _⟩)] ?_
     iterate 3 refine ae ?_
     refine aB (congrArg (D.int .i64) ?_)
     rw [lF, if_neg (by simp [hc0]), if_pos (by rw [hr, aD (by omega), hz]; rfl)]
    ·have hz : FQ w.feats i = true := by rw [← Bool.not_eq_false', ← Ih]; exact hc3
     iterate 3 refine ae ?_
     refine aF ?_
     refine ae ?_
     refine bL [(9, ⟨_, .int _ _⟩)] ?_
     refine ae ?_
     exact ⟨i + 1, ⟨by omega, by rw [hr, aD (by omega), hz]; rfl⟩, by omega, (az.to [(0, 0), (1, 1)] ah ah aX bJ)⟩
   ·try simp only [au] at hc2
    iterate 4 refine ae ?_
    refine ai [(3, ⟨_, .int _ _⟩)] ?_
    refine ae ?_
    refine aB (congrArg (D.int .i64) ?_)
    rw [lF, if_neg (by simp [hc0]), if_neg (by rw [hr, bD (by omega)]; simp)]
def Gx (Γ : Ctx) : Prop := ∀ (r : Rec) (w : aR) (al : Bool), (w.sm) → Γ.pre 443 [Rec.D r, aR.D w, .bool al] ∧ Γ.val 443 [Rec.D r, aR.D w, .bool al] = .int .i64 (lF r w al)
def jR : aI := { np := 2, ns := 16, res := [⟨2, none⟩], rsh := [[.a]], body := (.seq (rg [gb 9 s0, gb 3 s1, gm (i6 0)] [(10, 0), (3, 1), (2, 2)]) (.seq (.seq (rg [gf 0 s3, gd l0, gl l1, gn (bA l2 (i6 0))] [(4, 3)]) (.cond s4 (.seq (rg [gm (i6 9)] [(2, 0)]) .ret) .skip)) (.seq (.seq (rg [gf 0 s3, gd l0, gl l1, gn (fN l2 (i6 3))] [(5, 3)]) (.cond s5 (.seq (rg [gm (i6 3)] [(2, 0)]) .ret) .skip)) (.seq (.seq (rg [gf 0 s3, gd l0, gl l1, gm (i6 0)] [(9, 1), (7, 2), (6, 3)]) (.block 0 (.loop (.seq (rg [gn (bQ s6 s7)] [(8, 0)]) (.seq (.cond s8 .skip (.exit 0)) (.seq (.block 1 (.seq (rg [ga 4 s9 s6, gk 4 true l0, gb 4 (.c (.agg [.str [], .str [], .av, .bool false])), gt 4 l2 l1] [(11, 2)]) (.seq (rg [gk 9 true kF, gk 4 true mV, gf 0 s3, gd l2, gl l3, gn (bA l4 (i6 1)), gx 443 [l0, l1, l5] [[.a, .a, .a, .a, .a, .a, .sl 3 [.sl 4 [.a, .a, .sl 1 [.a], .a], .a, .a], .sl 3 [.a, .a, .a], .sl 2 [.a, .sl 1 [.a]]], [.a, .a, .sl 1 [.a], .a], [.a]], gm l6] [(12, 7)]) (.seq (rg [gm jV, gn (cN l0 (i6 0))] [(13, 1)]) (.cond ri (.seq (rg [gm jV, gm l0] [(2, 1)]) .ret) .skip))))) (rg [gn (bh s6 (i6 1)), gm l0] [(6, 1)]))))))) (.seq (.seq (rg [gf 1 s3, gd l0, gx 212 [l1] [[.a]], gn (.un .not l2)] [(14, 3)]) (.cond vj (.seq (rg [gm (i6 7)] [(2, 0)]) .ret) .skip)) (.seq (.seq (rg [gf 2 s3, gd l0, gn (cN l1 (cs [])), gm l2, ⟨.fa 2 s3, some (3, true)⟩, ⟨.ld 1 false l4, some (3, true)⟩, ⟨.call 349 [l5] [[.a]], some (3, true)⟩, ⟨.un .not l6, some (3, true)⟩, gn (.pick l3 l7 (cb false))] [(15, 8)]) (.cond sE (.seq (rg [gm (i6 14)] [(2, 0)]) .ret) .skip)) (.seq (rg [gm (i6 0)] [(2, 0)]) .ret))))))) }
theorem w210 {Γ : Ctx} (hm : (Γ.at 0).bN) (h212 : Ew (Γ.at 0)) (h349 : xh (Γ.at 0)) (h443 : Gx (Γ.at 0)) (r : Rec) (n : aJ)  (hp0 : n.sm) : bo (Γ.at 0) jR.body (eC jR (.int .i64 (jK r n)) : Ex → List aN → St → Prop) (bF jR [Rec.D r, aJ.D n]) ⟨0, []⟩ := by
 show bo _ _ _ [⟨true, Rec.D r⟩, ⟨true, aJ.D n⟩, .un, .un, .un, .un, .un, .un, .un, .un, .un, .un, .un, .un, .un, .un] ⟨0, []⟩
 refine aw ?_
 refine aZ ?_
 refine aZ ?_
 refine ae ?_
 refine ai [(2, ⟨_, .int _ _⟩), (3, ⟨_, _⟩), (10, ⟨_, _⟩)] ?_
 iterate 3 refine ae ?_
 first | refine aj (v := .sl _ _) ?_ | refine aj (v := .own _ _ _ _) ?_ | refine aj (v := .av) ?_
 refine aC fun u0 => ?_; specialize u0 rfl rfl
 refine aQ ?_
 refine ai [(4, ⟨_, .bool _⟩)] ?_
 refine ak (fun hc0 => ?_) (fun hc0 => ?_)
 ·try simp only [au] at hc0
  iterate 3 refine ae ?_
  refine ai [(2, ⟨_, .int _ _⟩)] ?_
  refine ae ?_
  refine aB (congrArg (D.int .i64) ?_)
  rw [jK, if_pos (by omega)]
 ·try simp only [au] at hc0
  iterate 4 refine ae ?_
  first | refine aj (v := .sl _ _) ?_ | refine aj (v := .own _ _ _ _) ?_ | refine aj (v := .av) ?_
  refine aC fun u1 => ?_; specialize u1 rfl rfl
  refine bE ?_
  refine ai [(5, ⟨_, .bool _⟩)] ?_
  refine ak (fun hc1 => ?_) (fun hc1 => ?_)
  ·try simp only [au] at hc1
   iterate 3 refine ae ?_
   refine ai [(2, ⟨_, .int _ _⟩)] ?_
   refine ae ?_
   refine aB (congrArg (D.int .i64) ?_)
   rw [jK, if_neg (by omega), if_pos (by omega)]
  ·try simp only [au] at hc1
   iterate 4 refine ae ?_
   first | refine aj (v := .sl _ _) ?_ | refine aj (v := .own _ _ _ _) ?_ | refine aj (v := .av) ?_
   refine aC fun u2 => ?_; specialize u2 rfl rfl
   refine ae ?_
   refine ai [(6, ⟨_, .int _ _⟩), (7, ⟨_, .int _ _⟩), (9, ⟨_, .sl _ _⟩)] ?_
   refine bz hm (ι := Nat) (fun i => [.un, .un, .un, ⟨true, .ptr 1 3 0 0⟩, .un, .un, ⟨true, .int .i64 (i : Nat)⟩, ⟨true, .int .i64 (n.any.length : Nat)⟩, .un, ⟨true, .sl 4 (n.any.map aR.D)⟩, ⟨true, .ptr 0 9 0 0⟩, .un, .un, .un, .un, .un]) (fun i => [(0, .buf 9 [Rec.D r]), (1, .buf 3 [aJ.D n])]) 15 (fun i => i ≤ n.any.length ∧ pd r n.any = il (fun i => lF r n.any[i]! (decide ((n.any.length : Int) = 1))) i n.any.length) (fun i => n.any.length - i) 0 ⟨by omega, rfl⟩ (az.to [(0, 0), (1, 1)] ah ah aX bJ) ?_
   rintro i ⟨hi, hr⟩
   refine ae ?_
   refine aW ?_
   refine ai [(8, ⟨_, .bool _⟩)] ?_
   refine ak (fun hc2 => ?_) (fun hc2 => ?_)
   ·try simp only [au] at hc2
    refine ae ?_
    refine ax ?_ hm
    refine ae ?_
    first | refine aP _ ?_ | refine br ?_
    first | refine aS (v := (aR.D _)) ?_ | refine bH (v := (aR.D _)) ?_
    refine aZ ?_
    refine aM (aR.D n.any[i]!) (he := by exact rfl) ?_
    refine ai [(11, ⟨_, _⟩)] ?_
    refine ae ?_
    refine bG ?_
    refine bG ?_
    refine ae ?_
    first | refine aj (v := .sl _ _) ?_ | refine aj (v := .own _ _ _ _) ?_ | refine aj (v := .av) ?_
    refine aC fun u3 => ?_; specialize u3 rfl rfl
    refine aQ ?_
    refine ay (hc := h443 r n.any[i]! _ (hp0.1 _ (cE (by omega)))) ?_
    refine ae ?_
    refine ai [(12, ⟨_, .int _ _⟩)] ?_
    iterate 2 refine ae ?_
    refine bU ?_
    refine ai [(13, ⟨_, .bool _⟩)] ?_
    refine wp_cond (fun hc3 => ?_) (fun hc3 => ?_)
    ·try simp only [au] at hc3
     iterate 3 refine ae ?_
     refine ai [(2, ⟨_, .int _ _⟩)] ?_
     iterate 3 refine ae ?_
     refine aB (congrArg (D.int .i64) ?_)
     have hw : pd r n.any = lF r n.any[i]! (decide ((n.any.length : Int) = 1)) := by rw [hr, rK (by omega) hc3]
     rw [jK, if_neg (by omega), if_neg (by omega), if_pos (by rw [hw]; exact hc3), hw]
    ·try simp only [au] at hc3
     iterate 3 refine ae ?_
     refine aF ?_
     refine ae ?_
     refine bL [(6, ⟨_, .int _ _⟩)] ?_
     refine ae ?_
     exact ⟨i + 1, ⟨by omega, by rw [hr, tE (by omega) hc3]⟩, by omega, (az.to [(0, 0), (1, 1)] ah ah aX bJ)⟩
   ·try simp only [au] at hc2
    iterate 4 refine ae ?_
    have hw0 : pd r n.any = 0 := by rw [hr, tD (by omega)]
    refine ae ?_
    refine aj (v := (.str _)) ?_
    refine ay (hc := h212 _) ?_
    refine ct ?_
    refine ai [(14, ⟨_, .bool _⟩)] ?_
    refine ak (fun hc4 => ?_) (fun hc4 => ?_)
    ·try simp only [au] at hc4
     iterate 3 refine ae ?_
     refine ai [(2, ⟨_, .int _ _⟩)] ?_
     refine ae ?_
     refine aB (congrArg (D.int .i64) ?_)
     rw [jK, if_neg (by omega), if_neg (by omega), if_neg (by simp [hw0]), if_pos hc4]
    ·simp only [Bool.not_eq_false'] at hc4
     iterate 4 refine ae ?_
     refine aj (v := (.str _)) ?_
     refine cn ?_
     iterate 2 refine ae ?_
     refine aj (v := (.str _)) ?_
     refine ay (hc := h349 _) ?_
     refine ct ?_
     refine bK ?_
     refine ai [(15, ⟨_, .bool _⟩)] ?_
     refine ak (fun hc5 => ?_) (fun hc5 => ?_)
     ·try simp only [au] at hc5
      iterate 3 refine ae ?_
      refine ai [(2, ⟨_, .int _ _⟩)] ?_
      refine ae ?_
      refine aB (congrArg (D.int .i64) ?_)
      rw [jK, if_neg (by omega), if_neg (by omega), if_neg (by simp [hw0]), if_neg (by simp [hc4]), if_pos hc5]
     ·simp only [Bool.and_eq_false_iff, Bool.not_eq_false', decide_eq_true_eq] at hc5
      iterate 3 refine ae ?_
      refine ai [(2, ⟨_, .int _ _⟩)] ?_
      refine ae ?_
      refine aB (congrArg (D.int .i64) ?_)
      rw [jK, if_neg (by omega), if_neg (by omega), if_neg (by simp [hw0]), if_neg (by simp [hc4]), if_neg (by rintro ⟨g1, g2⟩; rcases hc5 with h | h; exact g1 h; rw [g2] at h; cases h)]
def Ge (Γ : Ctx) : Prop := ∀ (r : Rec) (n : aJ), (n.sm) → Γ.pre 210 [Rec.D r, aJ.D n] ∧ Γ.val 210 [Rec.D r, aJ.D n] = .int .i64 (jK r n)
def jP : aI := { np := 2, ns := 15, res := [⟨2, none⟩], rsh := [[.a]], body := (.seq (rg [gb 9 s0, gm (i6 0)] [(3, 0), (2, 1)]) (.seq (rg [gm s1, gx 448 [l0] [[.a]], gm l1, ge l2 0, ge l2 1, ge l2 2, gm l3, gm l4, gm l5] [(8, 6), (10, 7)]) (.seq (.seq (rg [gf 6 s3, gd l0, gl l1, gm (i6 0)] [(7, 1), (5, 2), (4, 3)]) (.block 0 (.loop (.seq (rg [gn (bQ s4 s5)] [(6, 0)]) (.seq (.cond s6 .skip (.exit 0)) (.seq (.block 1 (.seq (rg [ga 3 s7 s4, gk 3 true l0, gb 3 (.c (.agg [.av, .str [], .str []])), gt 3 l2 l1] [(9, 2)]) (.seq (rg [gm s8, gn (bA l0 (i6 2)), gm l1, ⟨.fa 2 s9, some (2, true)⟩, ⟨.ld 1 false l3, some (2, true)⟩, ⟨.mv kF, some (2, true)⟩, ⟨.bin .eql l4 l5, some (2, true)⟩, gn (.pick l2 l6 (cb false)), gm l7, ⟨.mv s8, some (8, false)⟩, ⟨.bin .eql l9 (i6 3), some (8, false)⟩, ⟨.mv l10, some (8, false)⟩, ⟨.fa 0 s9, some (11, true)⟩, ⟨.ld 1 false lJ, some (11, true)⟩, ⟨.len nB, some (11, true)⟩, ⟨.bin .eql nW (i6 1), some (11, true)⟩, ⟨.pick kl oN (cb false), some (8, false)⟩, ⟨.mv qm, some (8, false)⟩, ⟨.fa 0 s9, some (17, true)⟩, ⟨.ld 1 false rU, some (17, true)⟩, ⟨.ia 4 tK (i6 0), some (17, true)⟩, ⟨.fa 0 vz, some (17, true)⟩, ⟨.ld 1 false wi, some (17, true)⟩, ⟨.mv kF, some (17, true)⟩, ⟨.bin .eql xf yI, some (17, true)⟩, ⟨.pick rT zK (cb false), some (8, false)⟩, gn (.pick l8 (cb true) At)] [(11, 26)]) (.cond mV (.seq (rg [gm (i6 0)] [(2, 0)]) .ret) .skip)))) (rg [gn (bh s4 (i6 1)), gm l0] [(4, 1)]))))))) (.seq (.seq (rg [gm s8] [(12, 0)]) (.block 2 (.seq (rg [gn (bA jV (i6 2)), gm l0] [(13, 1)]) (.cond ri (.seq (rg [gm (i6 14)] [(2, 0)]) .ret) (.seq (rg [gn (bA jV (i6 3)), gm l0] [(14, 1)]) (.cond vj (.seq (rg [gm (i6 16)] [(2, 0)]) .ret) .skip)))))) (.seq (rg [gm (i6 0)] [(2, 0)]) .ret))))) }
theorem w214 {Γ : Ctx} (hm : (Γ.at 0).bN) (h448 : EB (Γ.at 0)) (r : Rec) (s : aq)  (hp0 : s.length ≤ 1048576) : bo (Γ.at 0) jP.body (eC jP (.int .i64 (me r s)) : Ex → List aN → St → Prop) (bF jP [Rec.D r, .str s]) ⟨0, []⟩ := by
 show bo _ _ _ [⟨true, Rec.D r⟩, ⟨true, .str s⟩, .un, .un, .un, .un, .un, .un, .un, .un, .un, .un, .un, .un, .un] ⟨0, []⟩
 refine aw ?_
 refine aZ ?_
 refine ae ?_
 refine ai [(2, ⟨_, .int _ _⟩), (3, ⟨_, _⟩)] ?_
 iterate 2 refine ae ?_
 refine ay (hc := h448 s hp0) ?_
 refine ae ?_
 refine bg (.int _ _) ?_
 refine bg (.str _) ?_
 refine bg (.str _) ?_
 iterate 3 refine ae ?_
 refine ai [(8, ⟨_, .int _ _⟩), (10, ⟨_, .str _⟩)] ?_
 iterate 3 refine ae ?_
 first | refine aj (v := .sl _ _) ?_ | refine aj (v := .own _ _ _ _) ?_ | refine aj (v := .av) ?_
 refine aC fun u0 => ?_; specialize u0 rfl rfl
 refine ae ?_
 refine ai [(4, ⟨_, .int _ _⟩), (5, ⟨_, .int _ _⟩), (7, ⟨_, .sl _ _⟩)] ?_
 refine bz hm (ι := Nat) (fun i => [.un, .un, .un, ⟨true, .ptr 0 9 0 0⟩, ⟨true, .int .i64 (i : Nat)⟩, ⟨true, .int .i64 (r.needs.length : Nat)⟩, .un, ⟨true, .sl 3 (r.needs.map aJ.D)⟩, ⟨true, .int .i64 (cB s).1⟩, .un, ⟨true, .str (cB s).2.1⟩, .un, .un, .un, .un]) (fun i => [(0, .buf 9 [Rec.D r])]) 15 (fun i => i ≤ r.needs.length ∧ me r s = (if (r.needs.drop i).any (Cl (cB s).1 (cB s).2.1) = true then 0 else Fh (cB s).1)) (fun i => r.needs.length - i) 0 ⟨by omega, A9 r s⟩ (az.to [(0, 0)] ah ah aX bJ) ?_
 rintro i ⟨hi, hr⟩
 refine ae ?_
 refine aW ?_
 refine ai [(6, ⟨_, .bool _⟩)] ?_
 refine ak (fun hc0 => ?_) (fun hc0 => ?_)
 ·try simp only [au] at hc0
  refine ae ?_
  refine ax ?_ hm
  refine ae ?_
  first | refine aP _ ?_ | refine br ?_
  first | refine aS (v := (aJ.D _)) ?_ | refine bH (v := (aJ.D _)) ?_
  refine aZ ?_
  refine aM (aJ.D r.needs[i]!) (he := by exact rfl) ?_
  refine ai [(9, ⟨_, _⟩)] ?_
  iterate 2 refine ae ?_
  refine aQ ?_
  iterate 2 refine ae ?_
  refine aj (v := (.str _)) ?_
  refine ae ?_
  refine cH ?_
  refine bK ?_
  iterate 2 refine ae ?_
  refine aQ ?_
  iterate 2 refine ae ?_
  first | refine aj (v := .sl _ _) ?_ | refine aj (v := .own _ _ _ _) ?_ | refine aj (v := .av) ?_
  refine aC fun _ => ?_
  refine aQ ?_
  refine bK ?_
  iterate 2 refine ae ?_
  first | refine aj (v := .sl _ _) ?_ | refine aj (v := .own _ _ _ _) ?_ | refine aj (v := .av) ?_
  refine aP 0 (hb := fun h => by simp only [Bool.true_and, beq_iff_eq, Bool.and_eq_true, decide_eq_true_eq] at h; omega) ?_
  refine ez ?_
  refine aS (q := aR.D) (xs := r.needs[i]!.any) (i := 0) (hi := fun h => by simp only [Bool.true_and, beq_iff_eq, Bool.and_eq_true, decide_eq_true_eq] at h; omega) (v := (.str r.needs[i]!.any[0]!.name)) ?_
  refine ae ?_
  refine cH ?_
  refine bK ?_
  refine bY ?_
  refine ai [(11, ⟨_, .bool _⟩)] ?_
  refine wp_cond (fun hc1 => ?_) (fun hc1 => ?_)
  ·have hz : Cl (cB s).1 (cB s).2.1 r.needs[i]! = true := hc1
   iterate 2 refine ae ?_
   refine ai [(2, ⟨_, .int _ _⟩)] ?_
   iterate 3 refine ae ?_
   refine aB (congrArg (D.int .i64) ?_)
   rw [hr, CG (by omega) hz]; rfl
  ·have hz : Cl (cB s).1 (cB s).2.1 r.needs[i]! = false := hc1
   iterate 3 refine ae ?_
   refine aF ?_
   refine ae ?_
   refine bL [(4, ⟨_, .int _ _⟩)] ?_
   refine ae ?_
   exact ⟨i + 1, ⟨by omega, by rw [hr, E2 (by omega) hz]⟩, by omega, (az.to [(0, 0)] ah ah aX bJ)⟩
 ·try simp only [au] at hc0
  iterate 4 refine ae ?_
  have he : me r s = Fh (cB s).1 := by rw [hr, CF (by omega)]; rfl
  refine ae ?_
  refine ai [(12, ⟨_, .int _ _⟩)] ?_
  refine ax ?_ hm
  refine ae ?_
  refine aQ ?_
  refine ae ?_
  refine ai [(13, ⟨_, .bool _⟩)] ?_
  refine wp_cond (fun hc2 => ?_) (fun hc2 => ?_)
  ·try simp only [au] at hc2
   iterate 2 refine ae ?_
   refine ai [(2, ⟨_, .int _ _⟩)] ?_
   iterate 2 refine ae ?_
   refine aB (congrArg (D.int .i64) ?_)
   rw [he, Fh, if_pos hc2]
  ·try simp only [au] at hc2
   refine ae ?_
   refine aQ ?_
   refine ae ?_
   refine ai [(14, ⟨_, .bool _⟩)] ?_
   refine wp_cond (fun hc3 => ?_) (fun hc3 => ?_)
   ·try simp only [au] at hc3
    iterate 2 refine ae ?_
    refine ai [(2, ⟨_, .int _ _⟩)] ?_
    iterate 2 refine ae ?_
    refine aB (congrArg (D.int .i64) ?_)
    rw [he, Fh, if_neg hc2, if_pos hc3]
   ·try simp only [au] at hc3
    iterate 4 refine ae ?_
    refine ai [(2, ⟨_, .int _ _⟩)] ?_
    refine ae ?_
    refine aB (congrArg (D.int .i64) ?_)
    rw [he, Fh, if_neg hc2, if_neg hc3]
def Gg (Γ : Ctx) : Prop := ∀ (r : Rec) (s : aq), (s.length ≤ 1048576) → Γ.pre 214 [Rec.D r, .str s] ∧ Γ.val 214 [Rec.D r, .str s] = .int .i64 (me r s)
end Go.Abs
end
section
namespace Go.Abs
open Go
def iN : aI := { np := 1, ns := 39, res := [⟨1, none⟩, ⟨2, none⟩], rsh := [[.a], [.a]], body := (.seq (rg [gb 9 s0, gm (i6 0), gm (i6 0)] [(3, 0), (1, 1), (2, 2)]) (.seq (.block 0 (.seq (rg [gf 0 s3, gd l0, gx 208 [l1] [[.a]], gn (.un .not l2), gm l3] [(4, 4)]) (.cond s4 (.seq (rg [gm (i6 4), gm (i6 0)] [(1, 0), (2, 1)]) .ret) (.seq (rg [gf 1 s3, gk 5 true l0, gx 209 [l1] [[.a, .a, .a, .a, .a]], gn (.un .not l2), gm l3] [(5, 4)]) (.cond s5 (.seq (rg [gm (i6 5), gm (i6 0)] [(1, 0), (2, 1)]) .ret) (.seq (rg [gf 6 s3, gd l0, gl l1, gn (fN l2 (i6 8)), gm l3, ⟨.fa 7 s3, some (4, false)⟩, ⟨.ld 1 false l5, some (4, false)⟩, ⟨.len l6, some (4, false)⟩, ⟨.bin .gtr l7 (i6 8), some (4, false)⟩, gn (.pick l4 (cb true) l8), gm l9] [(6, 10)]) (.cond s6 (.seq (rg [gm (i6 3), gm (i6 0)] [(1, 0), (2, 1)]) .ret) .skip))))))) (.seq (.seq (rg [gf 6 s3, gd l0, gl l1, gm (i6 0)] [(10, 1), (8, 2), (7, 3)]) (.block 1 (.loop (.seq (rg [gn (bQ s7 s8)] [(9, 0)]) (.seq (.cond s9 .skip (.exit 1)) (.seq (.block 2 (.seq (rg [gm s7, ga 3 kF s7, gk 3 true l1, gb 3 (.c (.agg [.av, .str [], .str []])), gm l0, gt 3 l3 l2] [(11, 3), (14, 4)]) (.seq (rg [gk 9 true s3, gk 3 true mV, gx 210 [l0, l1] [[.a, .a, .a, .a, .a, .a, .sl 3 [.sl 4 [.a, .a, .sl 1 [.a], .a], .a, .a], .sl 3 [.a, .a, .a], .sl 2 [.a, .sl 1 [.a]]], [.sl 4 [.a, .a, .sl 1 [.a], .a], .a, .a]], gm l2] [(12, 3)]) (.seq (rg [gm jV, gn (cN l0 (i6 0))] [(13, 1)]) (.cond ri (.seq (rg [gm jV, gm vj, gm l0, gm l1] [(1, 2), (2, 3)]) .ret) .skip))))) (rg [gn (bh s7 (i6 1)), gm l0] [(7, 1)]))))))) (.seq (.seq (rg [gf 7 s3, gd l0, gl l1, gm (i6 0)] [(18, 1), (16, 2), (15, 3)]) (.block 3 (.loop (.seq (rg [gn (bQ sE y6)] [(17, 0)]) (.seq (.cond wS .skip (.exit 3)) (.seq (.block 4 (.seq (rg [gm sE, ga 3 Ac sE, gk 3 true l1, gb 3 (.c (.agg [.str [], .str [], .str []])), gm l0, gt 3 l3 l2] [(19, 3), (22, 4)]) (.seq (.seq (rg [gk 9 true s3, gf 0 FH, gd l1, gf 1 FH, gd l3, gx 211 [l0, l2, l4] [[.a, .a, .a, .a, .a, .a, .sl 3 [.sl 4 [.a, .a, .sl 1 [.a], .a], .a, .a], .sl 3 [.a, .a, .a], .sl 2 [.a, .sl 1 [.a]]], [.a], [.a]], gm l5] [(20, 6)]) (.seq (rg [gm Cm, gn (cN l0 (i6 0))] [(21, 1)]) (.cond s21 (.seq (rg [gm Cm, gm s22, gm l0, gm l1] [(1, 2), (2, 3)]) .ret) .skip))) (.seq (rg [gf 2 FH, gd l0, gx 212 [l1] [[.a]], gn (.un .not l2)] [(23, 3)]) (.cond s23 (.seq (rg [gm s22, gm (i6 7), gm l0] [(1, 1), (2, 2)]) .ret) .skip))))) (rg [gn (bh sE (i6 1)), gm l0] [(15, 1)]))))))) (.seq (.seq (rg [gf 8 s3, gd l0, gx 213 [l1] [[.sl 2 [.a, .sl 1 [.a]]]], gn (.un .not l2)] [(24, 3)]) (.cond F5 (.seq (rg [gm (i6 11), gm (i6 0)] [(1, 0), (2, 1)]) .ret) .skip)) (.seq (.seq (rg [gf 8 s3, gd l0, gl l1, gm (i6 0)] [(28, 1), (26, 2), (25, 3)]) (.block 5 (.loop (.seq (rg [gn (bQ F6 H3)] [(27, 0)]) (.seq (.cond s27 .skip (.exit 5)) (.seq (.block 6 (.seq (rg [gm F6, ga 2 s28 F6, gk 2 true l1, gb 2 (.c (.agg [.str [], .av])), gm l0, gt 2 l3 l2] [(29, 3), (37, 4)]) (.seq (rg [gf 1 s29, gd l0, gl l1, gm (i6 0)] [(33, 1), (31, 2), (30, 3)]) (.block 7 (.loop (.seq (rg [gn (bQ Ep s31)] [(32, 0)]) (.seq (.cond s32 .skip (.exit 7)) (.seq (.block 8 (.seq (rg [ga 1 s33 Ep, gd l0, gm l1] [(34, 2)]) (.seq (rg [gk 9 true s3, gm s34, gx 214 [l0, l1] [[.a, .a, .a, .a, .a, .a, .sl 3 [.sl 4 [.a, .a, .sl 1 [.a], .a], .a, .a], .sl 3 [.a, .a, .a], .sl 2 [.a, .sl 1 [.a]]], [.a]], gm l2] [(35, 3)]) (.seq (rg [gm s35, gn (cN l0 (i6 0))] [(36, 1)]) (.cond s36 (.seq (rg [gm s35, gm s37, gm l0, gm l1] [(1, 2), (2, 3)]) .ret) .skip))))) (rg [gn (bh Ep (i6 1)), gm l0] [(30, 1)]))))))))) (rg [gn (bh F6 (i6 1)), gm l0] [(25, 1)]))))))) (.seq (.seq (rg [gk 9 true s3, gx 215 [l0] [[.a, .a, .a, .a, .a, .a, .sl 3 [.sl 4 [.a, .a, .sl 1 [.a], .a], .a, .a], .sl 3 [.a, .a, .a], .sl 2 [.a, .sl 1 [.a]]]], gn (.lenS l1), gn (fN l2 (i6 4096))] [(38, 3)]) (.cond s38 (.seq (rg [gm (i6 3), gm (i6 0)] [(1, 0), (2, 1)]) .ret) .skip)) (.seq (rg [gm (i6 0), gm (i6 0)] [(1, 0), (2, 1)]) .ret)))))))) }
theorem w70 {Γ : Ctx} (hm : (Γ.at 0).bN) (h208 : Cr (Γ.at 0)) (h209 : Aw (Γ.at 0)) (h210 : Ge (Γ.at 0)) (h211 : Ev (Γ.at 0)) (h212 : Ew (Γ.at 0)) (h213 : Gf (Γ.at 0)) (h214 : Gg (Γ.at 0)) (h215 : Ey (Γ.at 0)) (r : Rec)  (hp0 : kD r) : bo (Γ.at 0) iN.body (eC iN (.tup [.int .i64 (cC r).1, .int .i64 (cC r).2]) : Ex → List aN → St → Prop) (bF iN [Rec.D r]) ⟨0, []⟩ := by
 show bo _ _ _ (⟨true, Rec.D r⟩ :: .un :: .un :: .un :: .un :: .un :: .un :: .un :: .un :: .un :: .un :: .un :: .un :: .un :: .un :: .un :: .un :: .un :: .un :: .un :: .un :: .un :: .un :: .un :: .un :: .un :: .un :: .un :: .un :: .un :: .un :: .un :: .un :: .un :: .un :: .un :: .un :: .un :: .un :: []) ⟨0, []⟩
 refine aw ?_
 refine aZ ?_
 iterate 2 refine ae ?_
 refine ai [(1, ⟨_, .int _ _⟩), (2, ⟨_, .int _ _⟩), (3, ⟨_, _⟩)] ?_
 refine ax ?_ hm
 iterate 2 refine ae ?_
 refine aj (v := (.str _)) ?_
 refine ay (hc := h208 _) ?_
 refine ct ?_
 refine ae ?_
 refine ai [(4, ⟨_, .bool _⟩)] ?_
 refine wp_cond (fun hc0 => ?_) (fun hc0 => ?_)
 ·try simp only [au] at hc0
  iterate 3 refine ae ?_
  refine ai [(1, ⟨_, .int _ _⟩), (2, ⟨_, .int _ _⟩)] ?_
  iterate 2 refine ae ?_
  refine aB (aY (congrArg (D.int .i64) ?_) (congrArg (D.int .i64) ?_))
  all_goals (have hq : cC r = (4, 0) := (by rw [cC, if_pos hc0]); rw [hq]; first | done | rfl)
 ·simp only [Bool.not_eq_false'] at hc0
  iterate 2 refine ae ?_
  refine aj (v := dP.D r.v) ?_
  refine ay (hc := h209 r.v hp0.1.2) ?_
  refine ct ?_
  refine ae ?_
  refine ai [(5, ⟨_, .bool _⟩)] ?_
  refine wp_cond (fun hc1 => ?_) (fun hc1 => ?_)
  ·try simp only [au] at hc1
   iterate 3 refine ae ?_
   refine ai [(1, ⟨_, .int _ _⟩), (2, ⟨_, .int _ _⟩)] ?_
   iterate 2 refine ae ?_
   refine aB (aY (congrArg (D.int .i64) ?_) (congrArg (D.int .i64) ?_))
   all_goals (have hq : cC r = (5, 0) := (by rw [cC, if_neg (by simp [hc0]), if_pos hc1]); rw [hq]; first | done | rfl)
  ·simp only [Bool.not_eq_false'] at hc1
   iterate 2 refine ae ?_
   first | refine aj (v := .sl _ _) ?_ | refine aj (v := .own _ _ _ _) ?_ | refine aj (v := .av) ?_
   refine aC fun u0 => ?_; specialize u0 rfl rfl
   refine bE ?_
   iterate 2 refine ae ?_
   first | refine aj (v := .sl _ _) ?_ | refine aj (v := .own _ _ _ _) ?_ | refine aj (v := .av) ?_
   refine aC fun _ => ?_
   refine bE ?_
   refine bY ?_
   refine ae ?_
   refine ai [(6, ⟨_, .bool _⟩)] ?_
   refine wp_cond (fun hc2 => ?_) (fun hc2 => ?_)
   ·try simp only [au] at hc2
    iterate 3 refine ae ?_
    refine ai [(1, ⟨_, .int _ _⟩), (2, ⟨_, .int _ _⟩)] ?_
    iterate 2 refine ae ?_
    refine aB (aY (congrArg (D.int .i64) ?_) (congrArg (D.int .i64) ?_))
    all_goals (have hq : cC r = (3, 0) := (by rw [cC, if_neg (by simp [hc0]), if_neg (by simp [hc1]), if_pos (by omega)]); rw [hq]; first | done | rfl)
   ·try simp only [au] at hc2
    iterate 5 refine ae ?_
    first | refine aj (v := .sl _ _) ?_ | refine aj (v := .own _ _ _ _) ?_ | refine aj (v := .av) ?_
    refine aC fun u1 => ?_; specialize u1 rfl rfl
    refine ae ?_
    refine ai [(7, ⟨_, .int _ _⟩), (8, ⟨_, .int _ _⟩), (10, ⟨_, .sl _ _⟩)] ?_
    refine bz hm (ι := Nat) (fun i => (.un :: .un :: .un :: ⟨true, .ptr 0 9 0 0⟩ :: .un :: .un :: .un :: ⟨true, .int .i64 (i : Nat)⟩ :: ⟨true, .int .i64 (r.needs.length : Nat)⟩ :: .un :: ⟨true, .sl 3 (r.needs.map aJ.D)⟩ :: .un :: .un :: .un :: .un :: .un :: .un :: .un :: .un :: .un :: .un :: .un :: .un :: .un :: .un :: .un :: .un :: .un :: .un :: .un :: .un :: .un :: .un :: .un :: .un :: .un :: .un :: .un :: .un :: [])) (fun i => [(0, .buf 9 [Rec.D r])]) 28 (fun i => i ≤ r.needs.length ∧ lh r = fP (fun i => jK r r.needs[i]!) i r.needs.length) (fun i => r.needs.length - i) 0 ⟨by omega, rfl⟩ (az.to [(0, 0)] ah ah aX bJ) ?_
    rintro i ⟨hi, hr⟩
    refine ae ?_
    refine aW ?_
    refine ai [(9, ⟨_, .bool _⟩)] ?_
    refine ak (fun hc3 => ?_) (fun hc3 => ?_)
    ·try simp only [au] at hc3
     refine ae ?_
     refine ax ?_ hm
     iterate 2 refine ae ?_
     first | refine aP _ ?_ | refine br ?_
     first | refine aS (v := (aJ.D _)) ?_ | refine bH (v := (aJ.D _)) ?_
     refine aZ ?_
     refine ae ?_
     refine aM (aJ.D r.needs[i]!) (he := by exact rfl) ?_
     refine ai [(11, ⟨_, _⟩), (14, ⟨_, .int _ _⟩)] ?_
     refine ae ?_
     refine bG ?_
     refine bG ?_
     refine ay (hc := h210 r r.needs[i]! (hp0.2.1 _ (cE (by omega)))) ?_
     refine ae ?_
     refine ai [(12, ⟨_, .int _ _⟩)] ?_
     iterate 2 refine ae ?_
     refine bU ?_
     refine ai [(13, ⟨_, .bool _⟩)] ?_
     refine wp_cond (fun hc4 => ?_) (fun hc4 => ?_)
     ·try simp only [au] at hc4
      iterate 5 refine ae ?_
      refine ai [(1, ⟨_, .int _ _⟩), (2, ⟨_, .int _ _⟩)] ?_
      iterate 3 refine ae ?_
      refine aB (aY (congrArg (D.int .i64) ?_) (congrArg (D.int .i64) ?_))
      all_goals
       have hq : cC r = (jK r r.needs[i]!, ((i : Nat) : Int)) := by
        exact lT hc0 hc1 (by omega) (by omega) (BE (by rw [hr, kT (by omega) hc4]) hc4) hc4
       rw [hq]; first | done | rfl
     ·try simp only [au] at hc4
      iterate 3 refine ae ?_
      refine aF ?_
      refine ae ?_
      refine bL [(7, ⟨_, .int _ _⟩)] ?_
      refine ae ?_
      exact ⟨i + 1, ⟨by omega, by rw [hr, pF (by omega) hc4]⟩, by omega, (az.to [(0, 0)] ah ah aX bJ)⟩
    ·try simp only [au] at hc3
     iterate 4 refine ae ?_
     have hn0 : lh r = (0, 0) := by rw [hr, pE (by omega)]
     refine ae ?_
     first | refine aj (v := .sl _ _) ?_ | refine aj (v := .own _ _ _ _) ?_ | refine aj (v := .av) ?_
     refine aC fun u2 => ?_; specialize u2 rfl rfl
     refine ae ?_
     refine ai [(15, ⟨_, .int _ _⟩), (16, ⟨_, .int _ _⟩), (18, ⟨_, .sl _ _⟩)] ?_
     refine bz hm (ι := Nat) (fun i => (.un :: .un :: .un :: ⟨true, .ptr 0 9 0 0⟩ :: .un :: .un :: .un :: .un :: .un :: .un :: .un :: .un :: .un :: .un :: .un :: ⟨true, .int .i64 (i : Nat)⟩ :: ⟨true, .int .i64 (r.bars.length : Nat)⟩ :: .un :: ⟨true, .sl 3 (r.bars.map ec.D)⟩ :: .un :: .un :: .un :: .un :: .un :: .un :: .un :: .un :: .un :: .un :: .un :: .un :: .un :: .un :: .un :: .un :: .un :: .un :: .un :: .un :: [])) (fun i => [(0, .buf 9 [Rec.D r])]) 33 (fun i => i ≤ r.bars.length ∧ ry r = fP (fun i => vL r r.bars[i]!) i r.bars.length) (fun i => r.bars.length - i) 0 ⟨by omega, rfl⟩ (az.to [(0, 0)] ah ah aX bJ) ?_
     rintro i ⟨hi, hr⟩
     refine ae ?_
     refine aW ?_
     refine ai [(17, ⟨_, .bool _⟩)] ?_
     refine ak (fun hc5 => ?_) (fun hc5 => ?_)
     ·try simp only [au] at hc5
      refine ae ?_
      refine ax ?_ hm
      iterate 2 refine ae ?_
      first | refine aP _ ?_ | refine br ?_
      first | refine aS (v := (ec.D _)) ?_ | refine bH (v := (ec.D _)) ?_
      refine aZ ?_
      refine ae ?_
      refine aM (ec.D r.bars[i]!) (he := by exact rfl) ?_
      refine ai [(19, ⟨_, _⟩), (22, ⟨_, .int _ _⟩)] ?_
      iterate 2 refine ae ?_
      refine bG ?_
      refine ae ?_
      refine aj (v := (.str _)) ?_
      refine ae ?_
      refine aj (v := (.str _)) ?_
      refine ay (hc := h211 r r.bars[i]!.name r.bars[i]!.range (hp0.2.2.1 _ (cE (by omega))).2.1) ?_
      refine ae ?_
      refine ai [(20, ⟨_, .int _ _⟩)] ?_
      iterate 3 refine ae ?_
      refine bU ?_
      refine ai [(21, ⟨_, .bool _⟩)] ?_
      refine ak (fun hc6 => ?_) (fun hc6 => ?_)
      ·simp only [Bool.not_eq_true', decide_eq_false_iff_not] at hc6
       have hbe : vL r r.bars[i]! = kJ r r.bars[i]!.name r.bars[i]!.range := by rw [vL, if_pos hc6]
       iterate 6 refine ae ?_
       refine ai [(1, ⟨_, .int _ _⟩), (2, ⟨_, .int _ _⟩)] ?_
       iterate 3 refine ae ?_
       refine aB (aY (congrArg (D.int .i64) ?_) (congrArg (D.int .i64) ?_))
       all_goals
        have hq : cC r = (kJ r r.bars[i]!.name r.bars[i]!.range, ((i : Nat) : Int)) := by
         exact lT hc0 hc1 (by omega) (by omega) (wG hn0 (by rw [hr, kT (by omega) (by rw [hbe]; exact hc6), hbe]) hc6) hc6
        rw [hq]; first | done | rfl
      ·try simp only [au] at hc6
       iterate 3 refine ae ?_
       refine aj (v := (.str _)) ?_
       refine ay (hc := h212 _) ?_
       refine ct ?_
       refine ai [(23, ⟨_, .bool _⟩)] ?_
       refine wp_cond (fun hc7 => ?_) (fun hc7 => ?_)
       ·simp only [Bool.not_eq_true'] at hc7
        have hbe : vL r r.bars[i]! = 7 := by rw [vL, if_neg (fun h => h hc6), if_pos hc7]
        iterate 4 refine ae ?_
        refine ai [(1, ⟨_, .int _ _⟩), (2, ⟨_, .int _ _⟩)] ?_
        iterate 3 refine ae ?_
        refine aB (aY (congrArg (D.int .i64) ?_) (congrArg (D.int .i64) ?_))
        all_goals
         have hq : cC r = ((7 : Int), ((i : Nat) : Int)) := by
          exact lT hc0 hc1 (by omega) (by omega) (wG hn0 (by rw [hr, kT (by omega) (by rw [hbe]; decide), hbe]) (show (7 : Int) ≠ 0 by decide)) (show (7 : Int) ≠ 0 by decide)
         rw [hq]; first | done | rfl
       ·simp only [Bool.not_eq_false'] at hc7
        have hbz : vL r r.bars[i]! = 0 := by rw [vL, if_neg (fun h => h hc6), if_neg (by rw [hc7]; simp)]
        iterate 3 refine ae ?_
        refine aF ?_
        refine ae ?_
        refine bL [(15, ⟨_, .int _ _⟩)] ?_
        refine ae ?_
        exact ⟨i + 1, ⟨by omega, by rw [hr, pF (by omega) hbz]⟩, by omega, (az.to [(0, 0)] ah ah aX bJ)⟩
     ·try simp only [au] at hc5
      iterate 4 refine ae ?_
      have hb0 : ry r = (0, 0) := by rw [hr, pE (by omega)]
      refine ae ?_
      first | refine aj (v := .sl _ _) ?_ | refine aj (v := .own _ _ _ _) ?_ | refine aj (v := .av) ?_
      refine ay (hc := h213 r.feats hp0.2.2.2) ?_
      refine ct ?_
      refine ai [(24, ⟨_, .bool _⟩)] ?_
      refine ak (fun hc8 => ?_) (fun hc8 => ?_)
      ·try simp only [au] at hc8
       iterate 4 refine ae ?_
       refine ai [(1, ⟨_, .int _ _⟩), (2, ⟨_, .int _ _⟩)] ?_
       refine ae ?_
       refine aB (aY (congrArg (D.int .i64) ?_) (congrArg (D.int .i64) ?_))
       all_goals
        have hq : cC r = (11, 0) := by
         exact lT hc0 hc1 (by omega) (by omega) (BF hn0 hb0 hc8) (by decide)
        rw [hq]; first | done | rfl
      ·simp only [Bool.not_eq_false'] at hc8
       iterate 4 refine ae ?_
       first | refine aj (v := .sl _ _) ?_ | refine aj (v := .own _ _ _ _) ?_ | refine aj (v := .av) ?_
       refine aC fun u3 => ?_; specialize u3 rfl rfl
       refine ae ?_
       refine ai [(25, ⟨_, .int _ _⟩), (26, ⟨_, .int _ _⟩), (28, ⟨_, .sl _ _⟩)] ?_
       refine bz hm (ι := Nat) (fun i => (.un :: .un :: .un :: ⟨true, .ptr 0 9 0 0⟩ :: .un :: .un :: .un :: .un :: .un :: .un :: .un :: .un :: .un :: .un :: .un :: .un :: .un :: .un :: .un :: .un :: .un :: .un :: .un :: .un :: .un :: ⟨true, .int .i64 (i : Nat)⟩ :: ⟨true, .int .i64 (r.feats.length : Nat)⟩ :: .un :: ⟨true, .sl 2 (r.feats.map ba.D)⟩ :: .un :: .un :: .un :: .un :: .un :: .un :: .un :: .un :: .un :: .un :: [])) (fun i => [(0, .buf 9 [Rec.D r])]) 42 (fun i => i ≤ r.feats.length ∧ xD r = fP (fun i => pK r r.feats[i]!.of) i r.feats.length) (fun i => r.feats.length - i) 0 ⟨by omega, rfl⟩ (az.to [(0, 0)] ah ah aX bJ) ?_
       rintro i ⟨hi, hr⟩
       refine ae ?_
       refine aW ?_
       refine ai [(27, ⟨_, .bool _⟩)] ?_
       refine ak (fun hc9 => ?_) (fun hc9 => ?_)
       ·try simp only [au] at hc9
        refine ae ?_
        refine ax ?_ hm
        iterate 2 refine ae ?_
        first | refine aP _ ?_ | refine br ?_
        first | refine aS (v := (ba.D _)) ?_ | refine bH (v := (ba.D _)) ?_
        refine aZ ?_
        refine ae ?_
        refine aM (ba.D r.feats[i]!) (he := by exact rfl) ?_
        refine ai [(29, ⟨_, _⟩), (37, ⟨_, .int _ _⟩)] ?_
        iterate 2 refine ae ?_
        first | refine aj (v := .sl _ _) ?_ | refine aj (v := .own _ _ _ _) ?_ | refine aj (v := .av) ?_
        refine aC fun u4 => ?_; specialize u4 rfl rfl
        refine ae ?_
        refine ai [(30, ⟨_, .int _ _⟩), (31, ⟨_, .int _ _⟩), (33, ⟨_, .sl _ _⟩)] ?_
        refine na hm (ι := Nat) (fun j => (.un :: .un :: .un :: ⟨true, .ptr 0 9 0 0⟩ :: .un :: .un :: .un :: .un :: .un :: .un :: .un :: .un :: .un :: .un :: .un :: .un :: .un :: .un :: .un :: .un :: .un :: .un :: .un :: .un :: .un :: ⟨true, .int .i64 (i : Nat)⟩ :: ⟨true, .int .i64 (r.feats.length : Nat)⟩ :: .un :: ⟨true, .sl 2 (r.feats.map ba.D)⟩ :: .un :: ⟨true, .int .i64 (j : Nat)⟩ :: ⟨true, .int .i64 (r.feats[i]!.of.length : Nat)⟩ :: .un :: ⟨true, .sl 1 (r.feats[i]!.of.map D.str)⟩ :: .un :: .un :: .un :: ⟨true, .int .i64 (i : Nat)⟩ :: .un :: [])) (fun j => [(0, .buf 9 [Rec.D r])]) 53 (fun j => j ≤ r.feats[i]!.of.length ∧ pK r r.feats[i]!.of = il (fun j => me r r.feats[i]!.of[j]!) j r.feats[i]!.of.length) (fun j => r.feats[i]!.of.length - j) 0 ⟨by omega, rfl⟩ (az.to [(0, 0)] ah ah aX bJ) ?_
        rintro j ⟨hj, hjr⟩
        refine ae ?_
        refine aW ?_
        refine ai [(32, ⟨_, .bool _⟩)] ?_
        refine ak (fun hc10 => ?_) (fun hc10 => ?_)
        ·try simp only [au] at hc10
         refine ae ?_
         refine ax ?_ hm
         refine ae ?_
         first | refine aP _ ?_ | refine br ?_
         first | refine aS (v := (.str _)) ?_ | refine bH (v := (.str _)) ?_
         refine ae ?_
         refine ai [(34, ⟨_, .str _⟩)] ?_
         refine ae ?_
         refine bG ?_
         refine ae ?_
         refine ay (hc := h214 r r.feats[i]!.of[j]! ((hp0.2.2.2 _ (cE (by omega))).2.2 _ (cE (by omega)))) ?_
         refine ae ?_
         refine ai [(35, ⟨_, .int _ _⟩)] ?_
         iterate 2 refine ae ?_
         refine bU ?_
         refine ai [(36, ⟨_, .bool _⟩)] ?_
         refine wp_cond (fun hc11 => ?_) (fun hc11 => ?_)
         ·try simp only [au] at hc11
          iterate 5 refine ae ?_
          refine ai [(1, ⟨_, .int _ _⟩), (2, ⟨_, .int _ _⟩)] ?_
          iterate 2 refine ae ?_
          refine oe.ret ?_
          iterate 2 refine ae ?_
          refine aB (aY (congrArg (D.int .i64) ?_) (congrArg (D.int .i64) ?_))
          all_goals
           have hq : cC r = (me r r.feats[i]!.of[j]!, ((i : Nat) : Int)) := by
            have hie : pK r r.feats[i]!.of = me r r.feats[i]!.of[j]! := by rw [hjr, rK (by omega) hc11]
            exact lT hc0 hc1 (by omega) (by omega) (wH hn0 hb0 hc8 (by rw [hr, kT (f := (fun i => pK r r.feats[i]!.of)) (by omega) (by rw [hie]; exact hc11), hie])) hc11
           rw [hq]; first | done | rfl
         ·try simp only [au] at hc11
          iterate 3 refine ae ?_
          refine aF ?_
          refine ae ?_
          refine bL [(30, ⟨_, .int _ _⟩)] ?_
          refine oe.normal ?_
          exact ⟨j + 1, ⟨by omega, by rw [hjr, tE (by omega) hc11]⟩, by omega, (az.to [(0, 0)] ah ah aX bJ)⟩
        ·try simp only [au] at hc10
         refine ae ?_
         refine oe.out ?_
         iterate 2 refine ae ?_
         refine aF ?_
         refine ae ?_
         refine bL [(25, ⟨_, .int _ _⟩)] ?_
         refine ae ?_
         exact ⟨i + 1, ⟨by omega, by rw [hr, pF (f := (fun i => pK r r.feats[i]!.of)) (by omega) (by rw [hjr, tD (by omega)])]⟩, by omega, (az.to [(0, 0)] ah ah aX bJ)⟩
       ·try simp only [au] at hc9
        iterate 4 refine ae ?_
        have hpz : ee r = (0, 0) := wH hn0 hb0 hc8 (by rw [hr, pE (by omega)])
        have hgd : tG r := ⟨⟨hc0, hc1⟩, ⟨by omega, by omega⟩, hpz⟩
        refine bG ?_
        refine ay (hc := h215 r ⟨hgd, hp0⟩) ?_
        refine cv fun u5 => ?_; specialize u5 rfl rfl
        refine bE ?_
        refine ai [(38, ⟨_, .bool _⟩)] ?_
        refine ak (fun hc12 => ?_) (fun hc12 => ?_)
        ·try simp only [au] at hc12
         iterate 4 refine ae ?_
         refine ai [(1, ⟨_, .int _ _⟩), (2, ⟨_, .int _ _⟩)] ?_
         refine ae ?_
         refine aB (aY (congrArg (D.int .i64) ?_) (congrArg (D.int .i64) ?_))
         all_goals
          have hq : cC r = (3, 0) := by
           rw [vR hc0 hc1 (by omega) (by omega) hpz, if_pos (by omega)]
          rw [hq]; first | done | rfl
        ·try simp only [au] at hc12
         iterate 4 refine ae ?_
         refine ai [(1, ⟨_, .int _ _⟩), (2, ⟨_, .int _ _⟩)] ?_
         refine ae ?_
         refine aB (aY (congrArg (D.int .i64) ?_) (congrArg (D.int .i64) ?_))
         all_goals
          have hq : cC r = (0, 0) := by
           rw [vR hc0 hc1 (by omega) (by omega) hpz, if_neg (by omega)]
          rw [hq]; first | done | rfl
def C70 (Γ : Ctx) : Prop := ∀ (r : Rec), (kD r) → Γ.pre 70 [Rec.D r] ∧ Γ.val 70 [Rec.D r] = .tup [.int .i64 (cC r).1, .int .i64 (cC r).2]
end Go.Abs
end
section
namespace Go.Abs
open Go
def iO : aI := { np := 1, ns := 12, res := [⟨1, some (9, true)⟩, ⟨2, none⟩, ⟨3, none⟩], rsh := [[.a, .a, .a, .a, .a, .a, .sl 3 [.sl 4 [.a, .a, .sl 1 [.a], .a], .a, .a], .sl 3 [.a, .a, .a], .sl 2 [.a, .sl 1 [.a]]], [.a], [.a]], body := (.seq (rg [gb 9 (.c (.agg [.str [], .int .i64 0, .int .i64 0, .int .i64 0, .str [], .str [], .av, .av, .av])), gm (i6 0), gm (i6 0)] [(1, 0), (2, 1), (3, 2)]) (.seq (.seq (rg [gm s0, gn (.lenS l0), gn (fN l1 (i6 4096))] [(4, 2)]) (.cond s4 (.seq (rg [gn (.build [.str [], .int .i64 0, .int .i64 0, .int .i64 0, .str [], .str [], .av, .av, .av] []), gt 9 s1 l0, gm (i6 3), gm (i6 0)] [(2, 2), (3, 3)]) .ret) .skip)) (.seq (rg [gm s0, gx 124 [l0, (cs [10])] [[.a], [.a]], gm l1] [(5, 2)]) (.seq (rg [gm s5, gm s5, gl l1, gn (lP l2 (i6 1)), gn (.slA 1 l0 none (some l3)), gn (.build [.av, .int .i64 0] [(0, 1, l4)]), gb 2 l5, gm l6] [(6, 7)]) (.seq (rg [gm s6, gn (.callF 222 l0 [] []), gm l1, ge l2 0, ge l2 1, gb 9 (.c (.agg [.str [], .int .i64 0, .int .i64 0, .int .i64 0, .str [], .str [], .av, .av, .av])), gt 9 l5 l3, gm l4] [(9, 5), (7, 7)]) (.seq (.seq (rt [gm s7, gn (.un .not l0), gm l1, ⟨.mv s6, some (2, false)⟩, ⟨.nilck l3, some (2, false)⟩, ⟨.fa 1 l4, some (2, false)⟩, ⟨.ld 1 false l5, some (2, false)⟩, ⟨.mv s6, some (2, false)⟩, ⟨.nilck l7, some (2, false)⟩, ⟨.fa 0 l8, some (2, false)⟩, ⟨.ld 1 false l9, some (2, false)⟩, ⟨.len l10, some (2, false)⟩, ⟨.bin .lss l6 kl, some (2, false)⟩, gn (.pick l2 (cb true) lJ), gm nB, ⟨.mv s5, some (14, false)⟩, ⟨.mv s5, some (14, false)⟩, ⟨.len qm, some (14, false)⟩, ⟨.bin .sub rT (i6 1), some (14, false)⟩, ⟨.ia 1 oN rU, some (14, false)⟩, ⟨.ld 1 false tK, some (14, false)⟩, ⟨.bin .neq vz (cs []), some (14, false)⟩, gn (.pick nW (cb true) wi)] [(8, 22)]) (.cond s8 (.seq (rt [gn (.build [.str [], .int .i64 0, .int .i64 0, .int .i64 0, .str [], .str [], .av, .av, .av] []), gm s6, gc l1, gf 1 l2, gn (.ldI 1 false l3), gn (bh l4 (i6 1)), gt 9 s1 l0, gm (i6 2), gm l5] [(2, 7), (3, 8)]) .ret) .skip)) (.seq (.seq (rg [gk 9 true s9, gx 70 [l0] [[.a, .a, .a, .a, .a, .a, .sl 3 [.sl 4 [.a, .a, .sl 1 [.a], .a], .a, .a], .sl 3 [.a, .a, .a], .sl 2 [.a, .sl 1 [.a]]]], gm l1, ge l2 0, ge l2 1, gm l3, gm l4] [(10, 5)]) (.seq (rg [gm kF, gn (cN l0 (i6 0))] [(11, 1)]) (.cond mV (.seq (rg [gn (.build [.str [], .int .i64 0, .int .i64 0, .int .i64 0, .str [], .str [], .av, .av, .av] []), gm kF, gt 9 s1 l0, gm l1, gm (i6 0)] [(2, 3), (3, 4)]) .ret) .skip))) (.seq (rg [gk 9 true s9, gt 9 s1 l0, gm (i6 0), gm (i6 0)] [(2, 2), (3, 3)]) .ret)))))))) }
theorem w76 {Γ : Ctx} (hm : (Γ.at 0).bN) (h70 : C70 (Γ.at 0)) (h124 : Av (Γ.at 0)) (h222 : Gi (Γ.at 0)) (s : aq)   : bo (Γ.at 0) iO.body (eC iO (.tup [Rec.D (fX s).1, .int .i64 (fX s).2.1, .int .i64 (fX s).2.2]) : Ex → List aN → St → Prop) (bF iO [.str s]) ⟨0, []⟩ := by
 show bo _ _ _ [⟨true, .str s⟩, .un, .un, .un, .un, .un, .un, .un, .un, .un, .un, .un] ⟨0, []⟩
 refine aw ?_
 refine aZ ?_
 iterate 2 refine ae ?_
 refine ai [(1, ⟨_, _⟩), (2, ⟨_, .int _ _⟩), (3, ⟨_, .int _ _⟩)] ?_
 iterate 3 refine ae ?_
 refine cv fun u0 => ?_; specialize u0 rfl rfl
 refine bE ?_
 refine ai [(4, ⟨_, .bool _⟩)] ?_
 refine ak (fun hc0 => ?_) (fun hc0 => ?_)
 ·simp only [decide_eq_true_eq] at hc0
  have hrr : fX s = (nt, 3, 0) := by unfold fX; rw [if_pos (by omega)]
  rw [hrr]
  iterate 2 refine ae ?_
  refine b6 dC ?_
  refine aM dC (he := by exact rfl) ?_
  iterate 2 refine ae ?_
  refine ai [(2, ⟨_, .int _ _⟩), (3, ⟨_, .int _ _⟩)] ?_
  refine pe [(0, .buf 9 [Rec.D nt])] (.bf ah (.cons oU .nil) .nil) ?_
  refine ae ?_
  refine aB (j0 ?_ (congrArg (D.int .i64) ?_) (congrArg (D.int .i64) ?_))
  all_goals rfl
 ·simp only [decide_eq_false_iff_not] at hc0
  have hsp := fB 10 s []
  have hsp : 1 ≤ (ar s 10).length := hsp
  have hsl := cY s 10
  iterate 3 refine ae ?_
  refine ay (v := .sl 1 ((ar s 10).map D.str)) (hc := h124 s 10 (by omega)) ?_
  refine ae ?_
  refine ai [(5, ⟨_, .sl _ _⟩)] ?_
  iterate 3 refine ae ?_
  refine aC fun u1 => ?_; specialize u1 rfl rfl
  refine cA ?_
  refine wK ((ar s 10).length - 1) (hj := fun _ => by omega) (hb := fun _ => by omega) ?_
  refine b6 (Ld.D ⟨((ar s 10).take ((ar s 10).length - 1)), 0⟩) ?_
  refine aZ ?_
  refine ae ?_
  refine ai [(6, ⟨_, _⟩)] ?_
  refine ae ?_
  generalize hLS : ((ar s 10).take ((ar s 10).length - 1)) = LS
  have hLl : LS.length = (ar s 10).length - 1 := by rw [← hLS, List.length_take]; omega
  have hLm : uA LS := fun t ht => by
   rw [← hLS] at ht
   have := dd s 10 (List.mem_of_mem_take ht)
   omega
  have hsm0 : (⟨LS, 0⟩ : Ld).sm := ⟨⟨Nat.zero_le _, by simp only; omega⟩, hLm⟩
  obtain ⟨hrs, hsf⟩ := DH hLm
  have hsfl := hsf.length_le
  refine ae ?_
  refine iM (v := .tup [Rec.D (ek LS).1, .bool (pX LS).isSome]) (e := Ld.D ((⟨LS, 0⟩ : Ld).to (ek LS).2)) (hc := h222 ⟨LS, 0⟩ hsm0) ?_
  refine ae ?_
  refine bg (Rec.D _) ?_
  refine bg (.bool _) ?_
  refine aZ ?_
  refine aM (Rec.D (ek LS).1) (he := by exact rfl) ?_
  refine ae ?_
  refine ai [(7, ⟨_, .bool _⟩), (9, ⟨_, _⟩)] ?_
  iterate 3 refine ae ?_
  refine ct ?_
  iterate 2 refine ae ?_
  refine cz ?_
  refine ae ?_
  refine aj (v := .int .i64 ((LS.length - (ek LS).2.length : Nat) : Int)) ?_
  refine ae ?_
  refine cz ?_
  refine ae ?_
  refine aj (v := .sl 1 (LS.map D.str)) ?_
  refine aC fun _ => ?_
  refine aW ?_
  refine bY ?_
  iterate 3 refine ae ?_
  refine aC fun _ => ?_
  refine cA ?_
  refine aP ((ar s 10).length - 1) (hj := fun _ => by omega) (hb := fun _ => by omega) ?_
  refine aS (v := .str (ar s 10)[(ar s 10).length - 1]!) (hi := fun _ => by omega) ?_
  refine cn ?_
  refine bY ?_
  refine ai [(8, ⟨_, .bool _⟩)] ?_
  refine ak (fun hc1 => ?_) (fun hc1 => ?_)
  ·simp only [Bool.or_eq_true, Bool.not_eq_true', decide_eq_true_eq, decide_eq_false_iff_not] at hc1
   have hrr : fX s = (nt, 2, ((LS.length - (ek LS).2.length : Nat) : Int) + 1) := by
    unfold fX
    rw [if_neg (by omega)]
    simp only [hLS]
    rw [if_pos]
    rcases hc1 with (h | h) | h
    ·exact .inl h
    ·refine .inr (.inl fun e => ?_)
     rw [e] at h; simp only [List.length_nil] at h; omega
    ·exact .inr (.inr h)
   rw [hrr]
   refine ae ?_
   refine ij 15 (he := by simp only [lM, gI, kL, nn, oI, cg, Nat.reduceEqDiff, if_true, if_false, and_self, true_and, and_true, false_and, and_false, Nat.zero_add, List.length_map, Nat.le_refl, List.drop_zero, aO, reduceCtorEq, List.length_cons, List.length_nil, Nat.reduceAdd, Nat.reduceLeDiff, Ld.D, dC, kv]; exact rfl) (hm := by simp only [lM, gI, kL, nn, oI, cg, Nat.reduceEqDiff, if_true, if_false, and_self, true_and, and_true, false_and, and_false, Nat.zero_add, List.length_map, Nat.le_refl, List.drop_zero, aO, reduceCtorEq, List.length_cons, List.length_nil, Nat.reduceAdd, Nat.reduceLeDiff, Ld.D, dC, Rec.D]; exact rfl) ?_
   refine ae ?_
   refine b6 dC ?_
   refine ae ?_
   refine ya ?_
   refine ez ?_
   refine x5 (v := .int .i64 ((LS.length - (ek LS).2.length : Nat) : Int)) ?_
   refine aF ?_
   refine aM dC (he := by exact rfl) ?_
   iterate 2 refine ae ?_
   refine ai [(2, ⟨_, .int _ _⟩), (3, ⟨_, .int _ _⟩)] ?_
   refine pe [(0, .buf 9 [Rec.D nt]), (22, .buf 9 [Rec.D (ek LS).1])] (.bf ah (.cons oU .nil) (.id ah .nil)) ?_
   refine ae ?_
   refine aB (j0 ?_ (congrArg (D.int .i64) ?_) (congrArg (D.int .i64) ?_))
   all_goals rfl
  ·simp only [Bool.or_eq_false_iff, Bool.not_eq_false', decide_eq_true_eq, decide_eq_false_iff_not] at hc1
   have hrr : fX s = if (cC (ek LS).1).1 ≠ 0 then (nt, (cC (ek LS).1).1, 0) else ((ek LS).1, 0, 0) := by
    unfold fX
    rw [if_neg (by omega)]
    simp only [hLS]
    rw [if_neg]
    rintro (h | h | h)
    ·rw [hc1.1.1] at h; cases h
    ·exact h (List.eq_nil_of_length_eq_zero (by have := hc1.1.2; omega))
    ·exact h hc1.2
   rw [hrr]
   iterate 3 refine ae ?_
   refine bG (d := Rec.D (ek LS).1) ?_
   refine ay (hc := h70 (ek LS).1 hrs) ?_
   refine ae ?_
   refine bg (.int _ _) ?_
   refine bg (.int _ _) ?_
   iterate 2 refine ae ?_
   refine ai [(10, ⟨_, .int _ _⟩)] ?_
   iterate 3 refine ae ?_
   refine bU ?_
   refine ai [(11, ⟨_, .bool _⟩)] ?_
   refine ak (fun hc2 => ?_) (fun hc2 => ?_)
   ·simp only [Bool.not_eq_true', decide_eq_false_iff_not] at hc2
    rw [if_pos hc2]
    iterate 2 refine ae ?_
    refine b6 dC ?_
    refine ae ?_
    refine aM dC (he := by exact rfl) ?_
    iterate 2 refine ae ?_
    refine ai [(2, ⟨_, .int _ _⟩), (3, ⟨_, .int _ _⟩)] ?_
    refine pe [(0, .buf 9 [Rec.D nt]), (15, .buf 2 [Ld.D ((⟨LS, 0⟩ : Ld).to (ek LS).2)]), (22, .buf 9 [Rec.D (ek LS).1])] (.bf ah (.cons oU .nil) (.id ah (.id ah .nil))) ?_
    refine ae ?_
    refine aB (j0 ?_ (congrArg (D.int .i64) ?_) (congrArg (D.int .i64) ?_))
    all_goals rfl
   ·simp only [Bool.not_eq_false', decide_eq_true_eq] at hc2
    rw [if_neg (by rw [hc2]; simp)]
    iterate 2 refine ae ?_
    refine bG (d := Rec.D (ek LS).1) ?_
    refine aM (Rec.D (ek LS).1) (he := by exact rfl) ?_
    iterate 2 refine ae ?_
    refine ai [(2, ⟨_, .int _ _⟩), (3, ⟨_, .int _ _⟩)] ?_
    refine ae ?_
    refine aB (j0 ?_ (congrArg (D.int .i64) ?_) (congrArg (D.int .i64) ?_))
    all_goals rfl
def C76 (Γ : Ctx) : Prop := ∀ (s : aq), Γ.pre 76 [.str s] ∧ Γ.val 76 [.str s] = .tup [Rec.D (fX s).1, .int .i64 (fX s).2.1, .int .i64 (fX s).2.2]
end Go.Abs
end
namespace Go.Abs
end Go.Abs
section
namespace Go.Abs
open Go
end Go.Abs
end
section
namespace Go.Abs
def RdS.ok (x : RdS) : Prop := (x.st = 0 → x.r.needs = [] ∧ x.r.bars = [] ∧ x.r.feats = []) ∧ ((x.st = 2 ∨ x.st = 3) → x.r.needs ≠ []) ∧ (x.st = 5 → x.r.bars ≠ [])
end Go.Abs
namespace Go.Abs
end Go.Abs
end
section
namespace Go.Abs
def CE (ob : xk) : Prop := ∀ (σ : List (Nat × Nat)) (l l' : Nat) (w : List aq) (n : Nat) (b : Bool), kn 0 σ l = some l' → qI 0 σ (ob w (.own l 5 0 n) b) = some (ob w (.own l' 5 0 n) b)
theorem mj : CE dS := fun σ l l' w n b h => by simp only [dS, qI, oW, BZ, h]
def FF : D → Nat
 | .agg [.sl _ ws, _, _] => ws.length
 | .agg [.sl _ ws, .int _ i, _, _] => ws.length - i.toNat
 | _ => 0
def Bg (c : List D → Nat) (ds : List D) (st : St) : Nat := match ds with
 | .ptr l _ _ _ :: as => (match look st.m l with
  | some (.buf _ [o]) => 6 * FF o + c as
  | _ => 0)
 | _ => 0
theorem DK (w : List aq) (X : D) (b : Bool) : FF (dS w X b) = w.length := by simp [FF, dS]
theorem jf {c : List D → Nat} {l k nx : Nat} {as : List D} {m : List (Nat × bm)} {w : List aq} {X : D} {b : Bool} (h : look m l = some (.buf k [dS w X b])) : Bg c (.ptr l k 0 0 :: as) ⟨nx, m⟩ = 6 * w.length + c as := by
 simp only [Bg, h, DK]
theorem xS (nd : List Nd) : aH (nd.map Nd.D) = true := bP (fun _ => rfl) _
section
variable [cd] {P : Program} {ν : List (Nat × Nat)} {bM : List Nat} {t : List (Nat × nG)} {fid n key u k : Nat} {af : aI} {ob : xk} {as : List D} {w : List aq} {nd : List Nd} {b : Bool} {lp ln nx : Nat} {m : List (Nat × bm)} {K : D → St → Prop} {Pp : PO → Prop} {V : PO → D}
theorem BJ (hob : CE ob) (hk5 : k ≠ 5) (has : aH as = true) (h1 : look m lp = some (.buf k [ob w (.own ln 5 0 nd.length) b])) (h2 : look m ln = some (.buf 5 (nd.map Nd.D))) :
  lp ≠ ln ∧ (∀ i, i < (D.ptr lp k 0 0 :: as).length → Ck 0 [(lp, 0), (ln, 1)] ((D.ptr lp k 0 0 :: as).getD i .any) ((D.ptr 0 k 0 0 :: as).getD i .any)) ∧ eQ 0 2 [(lp, 0), (ln, 1)] = true ∧ (∀ l i, (l, i) ∈ [(lp, 0), (ln, 1)] → look m l ≠ none) ∧
   ∀ i bb, look [(0, .buf k [ob w (.own 1 5 0 nd.length) b]), (1, .buf 5 (nd.map Nd.D))] i = some bb → ∃ l b', (l, i) ∈ [(lp, 0), (ln, 1)] ∧ look m l = some b' ∧ nw 0 [(lp, 0), (ln, 1)] b' bb := by
 have hne : lp ≠ ln := by
  rintro rfl
  rw [h1] at h2
  exact hk5 (bm.buf.inj (Option.some.inj h2)).1
 have hb : Nat.beq lp ln = false := by cases h : Nat.beq lp ln with
  | false => rfl
  | true => exact absurd (Nat.eq_of_beq_eq_true h) hne
 have hb' : Nat.beq ln lp = false := by cases h : Nat.beq ln lp with
  | false => rfl
  | true => exact absurd (Nat.eq_of_beq_eq_true h).symm hne
 refine ⟨hne, fun i hi => ?_, ?_, fun l i h => ?_, fun i bb h => ?_⟩
 ·match i with
  | 0 => exact .inr (.inl (by simp [qI, BZ, kn]))
  | i + 1 => exact .inl ⟨rfl, b8 has i⟩
 ·simp [eQ, hb, hb']; rfl
 ·rcases List.mem_cons.1 h with h | h
  ·obtain ⟨rfl, rfl⟩ := Prod.mk.inj h; rw [h1]; simp
  ·obtain ⟨rfl, rfl⟩ := Prod.mk.inj (List.mem_singleton.1 h); rw [h2]; simp
 ·simp only [look] at h
  split at h
  ·rename_i e; subst e
   obtain rfl := Option.some.inj h
   exact ⟨lp, _, .head _, h1, rfl, .inr (.inl (by simp only [oW, hob _ ln 1 w nd.length b (show kn 0 [(lp, 0), (ln, 1)] ln = some 1 by simp [kn, hb])]))⟩
  ·split at h
   ·rename_i e; subst e
    obtain rfl := Option.some.inj h
    exact ⟨ln, _, .tail _ (.head _), h2, rfl, .inl ⟨rfl, xS nd⟩⟩
   ·cases h
theorem gM (hob : CE ob) (hk5 : k ≠ 5) (has : aH as = true) (hV : ∀ o, (V o).aL = true) (hmix : P.follows .mixedOrders = true) (hC : Cj P ν bM fid af) (hnp : as.length + 1 = af.np)
  (h1 : look m lp = some (.buf k [ob w (.own ln 5 0 nd.length) b])) (h2 : look m ln = some (.buf 5 (nd.map Nd.D))) (h3 : lp < nx) (h4 : ln < nx)
  (hK : ∀ o, Pp o → K (V o) ⟨nx + 1, (nx, .buf 5 (o.nd.map Nd.D)) :: cw (cg m ln) lp (.buf k [ob o.w (.own nx 5 0 o.nd.length) o.bad])⟩)
  (hw : bo ((under t key u).at 2) af.body (po af (xl k ob Pp V)) (bF af (.ptr 0 k 0 0 :: as)) ⟨2, [(0, .buf k [ob w (.own 1 5 0 nd.length) b]), (1, .buf 5 (nd.map Nd.D))]⟩) : nv P ν bM (under t key u) fid (.ptr lp k 0 0 :: as) ⟨nx, m⟩ K := by
 obtain ⟨hne, g2, g3, g4, g5⟩ := BJ hob hk5 has h1 h2
 refine yF (σi := [(lp, 0), (ln, 1)]) (cs := .ptr 0 k 0 0 :: as) (fun q => bd t key u q) hmix hC (by simp) g2 (by simpa using hnp) g3 g4 g5 hw ?_
 rintro d m1 ⟨o, j, hj, hP, rfl, e0, ej⟩
 have hb0 : Nat.beq 0 j = false := by cases j <;> first | omega | rfl
 have hbj : Nat.beq j 0 = false := by cases j <;> first | omega | rfl
 have hbl : Nat.beq lp nx = false := by cases h : Nat.beq lp nx with
  | false => rfl
  | true => have := Nat.eq_of_beq_eq_true h; omega
 have hbl' : Nat.beq nx lp = false := by cases h : Nat.beq nx lp with
  | false => rfl
  | true => have := Nat.eq_of_beq_eq_true h; omega
 refine ⟨[(0, lp), (j, nx)], j + 1, _, V o, ⟨g3, ?_, Nat.le_succ _, g4, ?_, g5, ?_⟩, .inl ⟨rfl, hV o⟩, hK o hP⟩
 ·simp [eQ, hbj, hb0, hbl, hbl']; omega
 ·intro i l h
  rcases List.mem_cons.1 h with h | h
  ·obtain ⟨rfl, rfl⟩ := Prod.mk.inj h; exact .inl (.head _)
  ·obtain ⟨rfl, rfl⟩ := Prod.mk.inj (List.mem_singleton.1 h); exact .inr (Nat.le_refl _)
 ·intro l bb h
  simp only [look] at h
  split at h
  ·rename_i e; subst e
   obtain rfl := Option.some.inj h
   exact .inl ⟨j, _, .tail _ (.head _), ej, rfl, .inl ⟨rfl, xS _⟩⟩
  ·rename_i hln
   rw [bt] at h
   split at h
   ·rename_i e; subst e
    obtain rfl := Option.some.inj h
    exact .inl ⟨0, _, .head _, e0, rfl, .inr (.inl (by simp only [oW, hob _ j nx o.w o.nd.length o.bad (show kn 0 [(0, l), (j, nx)] j = some nx by simp [kn, hb0])]))⟩
   ·rename_i hlp
    rw [dJ] at h
    split at h
    ·cases h
    ·rename_i hl2
     refine .inr ⟨by simp only [ju, if_neg (fun e => hlp (Eq.symm e)), if_neg hln], fun i hi => ?_, h⟩
     rcases List.mem_cons.1 hi with hi | hi
     ·exact hlp (Prod.mk.inj hi).1
     ·exact hl2 (Prod.mk.inj (List.mem_singleton.1 hi)).1
theorem zZ (hob : CE ob) (hk5 : k ≠ 5) (has : aH as = true) (hV : ∀ o, (V o).aL = true) (hmix : P.follows .mixedOrders = true) (hC : Cj P ν bM fid af) (hnp : as.length + 1 = af.np)
  (h1 : look m lp = some (.buf k [ob w (.own ln 5 0 nd.length) b])) (h2 : look m ln = some (.buf 5 (nd.map Nd.D))) (h3 : lp < nx) (h4 : ln < nx)
  (hK : ∀ o, Pp o → K (V o) ⟨nx, cw m lp (.buf k [ob o.w (.own ln 5 0 nd.length) o.bad])⟩)
  (hw : bo ((under t key u).at 2) af.body (po af (D7 k ob nd Pp V)) (bF af (.ptr 0 k 0 0 :: as)) ⟨2, [(0, .buf k [ob w (.own 1 5 0 nd.length) b]), (1, .buf 5 (nd.map Nd.D))]⟩) : nv P ν bM (under t key u) fid (.ptr lp k 0 0 :: as) ⟨nx, m⟩ K := by
 obtain ⟨hne, g2, g3, g4, g5⟩ := BJ hob hk5 has h1 h2
 refine yF (σi := [(lp, 0), (ln, 1)]) (cs := .ptr 0 k 0 0 :: as) (fun q => bd t key u q) hmix hC (by simp) g2 (by simpa using hnp) g3 g4 g5 hw ?_
 rintro d m1 ⟨o, hP, rfl, e0, ej⟩
 have hbl : Nat.beq lp ln = false := by cases h : Nat.beq lp ln with
  | false => rfl
  | true => exact absurd (Nat.eq_of_beq_eq_true h) hne
 have hbl' : Nat.beq ln lp = false := by cases h : Nat.beq ln lp with
  | false => rfl
  | true => exact absurd (Nat.eq_of_beq_eq_true h).symm hne
 refine ⟨[(0, lp), (1, ln)], 2, ⟨nx, cw m lp (.buf k [ob o.w (.own ln 5 0 nd.length) o.bad])⟩, V o, ⟨g3, ?_, Nat.le_refl _, g4, ?_, g5, ?_⟩, .inl ⟨rfl, hV o⟩, hK o hP⟩
 ·simp [eQ, hbl, hbl']; exact ⟨h3, rfl, h4⟩
 ·intro i l h
  rcases List.mem_cons.1 h with h | h
  ·obtain ⟨rfl, rfl⟩ := Prod.mk.inj h; exact .inl (.head _)
  ·obtain ⟨rfl, rfl⟩ := Prod.mk.inj (List.mem_singleton.1 h); exact .inl (.tail _ (.head _))
 ·intro l bb h
  simp only at h
  rw [bt] at h
  split at h
  ·rename_i e; subst e
   obtain rfl := Option.some.inj h
   exact .inl ⟨0, _, .head _, e0, rfl, .inr (.inl (by simp only [oW, hob _ 1 ln o.w nd.length o.bad (show kn 0 [(0, l), (1, ln)] 1 = some ln from rfl)]))⟩
  ·rename_i hlp
   by_cases hl2 : l = ln
   ·subst hl2
    rw [h2] at h
    obtain rfl := Option.some.inj h
    exact .inl ⟨1, _, .tail _ (.head _), ej, rfl, .inl ⟨rfl, xS _⟩⟩
   ·refine .inr ⟨by simp only [ju, if_neg (fun e => hlp (Eq.symm e)), if_neg (fun e => hl2 (Eq.symm e))], fun i hi => ?_, h⟩
    rcases List.mem_cons.1 hi with hi | hi
    ·exact hlp (Prod.mk.inj hi).1
    ·exact hl2 (Prod.mk.inj (List.mem_singleton.1 hi)).1
theorem lQ {a b : Nat} (h : a ≠ b) : Nat.beq a b = false := by
 cases h2 : Nat.beq a b with
 | false => rfl
 | true => exact absurd (Nat.eq_of_beq_eq_true h2) h
theorem sD {m : List (Nat × bm)} {l lw : Nat} (h : l ≠ lw) : dn (cg m lw) l = match look m l with
 | some (.bld (some l2) _ _) => cg (cg m lw) l2
 | _ => cg m lw := by
 haveI : cd := { gd := fun _ => True, le := fun _ _ _ _ _ => trivial }
 unfold dn
 rw [dJ, if_neg h]
 cases look m l with
 | none => rfl
 | some b => cases b with
  | bld o n u => cases o <;> rfl
  | _ => rfl
theorem zL {ws : List aq} {s : aq} {l lw : Nat} (hmix : P.follows .mixedOrders = true) (hC : Cj P ν bM fid af) (hnp : 2 = af.np)
  (h1 : nu m l s) (h2 : look m lw = some (.buf 1 (ws.map D.str))) (h3 : l < nx) (h4 : lw < nx) (hK : K (.tup []) ⟨nx + 1, lR (cg m lw) l nx (s ++ bR ws)⟩)
  (hw : ∀ m0, nu m0 0 s → look m0 1 = some (.buf 1 (ws.map D.str)) → bo ((under t key u).at 3) af.body (po af (fun d m => d = .tup [] ∧ look m 0 = some (.bld (some 9) (s ++ bR ws).length true) ∧ look m 9 = some (.row (s ++ bR ws)))) (bF af [.ptr 0 2 0 0, .own 1 1 0 ws.length]) ⟨3, m0⟩) :
  nv P ν bM (under t key u) fid [.ptr l 2 0 0, .own lw 1 0 ws.length] ⟨nx, m⟩ K := by
 have hlw : l ≠ lw := by
  rintro rfl
  rcases h1 with ⟨u, h, _⟩ | ⟨l2, u, h, _⟩ <;> rw [h2] at h <;> cases h
 have hnl : aH (ws.map D.str) = true := bP (fun _ => rfl) _
 have b1 := lQ hlw
 have b2 := lQ (Ne.symm hlw)
 have b3 := lQ (show l ≠ nx by omega)
 have b4 := lQ (show nx ≠ l by omega)

 have fin : ∀ (σi : List (Nat × Nat)) (m0 : List (Nat × bm)), eQ 0 3 σi = true → (l, 0) ∈ σi → (∀ l i, (l, i) ∈ σi → look m l ≠ none) → (∀ i b, look m0 i = some b → ∃ l b', (l, i) ∈ σi ∧ look m l = some b' ∧ nw 0 σi b' b) →
   (∀ l' b, look (dn (cg m lw) l) l' = some b → l' ≠ l → look m l' = some b ∧ ∀ i, (l', i) ∉ σi) → ∀ d m1, (d = .tup [] ∧ look m1 0 = some (.bld (some 9) (s ++ bR ws).length true) ∧ look m1 9 = some (.row (s ++ bR ws))) →
   ∃ (σo : List (Nat × Nat)) (q1 : Nat) (st' : St) (vd' : D), Fr σi σo 3 q1 m0 m1 ⟨nx, m⟩ st' ∧ Ck 0 σo d vd' ∧ K vd' st' := by
  rintro σi m0 oki hm hlt hm0 hoff d m1 ⟨rfl, e0, e9⟩
  refine ⟨[(0, l), (9, nx)], 10, ⟨nx + 1, lR (cg m lw) l nx (s ++ bR ws)⟩, .tup [], ⟨oki, ?_, Nat.le_succ _, hlt, ?_, hm0, ?_⟩, .inl ⟨rfl, rfl⟩, hK⟩
  ·simp [eQ, b3, b4]; exact ⟨by omega, rfl⟩
  ·intro i l' h
   rcases List.mem_cons.1 h with h | h
   ·obtain ⟨rfl, rfl⟩ := Prod.mk.inj h; exact .inl hm
   ·obtain ⟨rfl, rfl⟩ := Prod.mk.inj (List.mem_singleton.1 h); exact .inr (Nat.le_refl _)
  ·intro l' bb h
   simp only [lR, look] at h
   split at h
   ·rename_i e; subst e
    obtain rfl := Option.some.inj h
    exact .inl ⟨9, _, .tail _ (.head _), e9, rfl⟩
   ·rename_i hln
    rw [bt] at h
    split at h
    ·rename_i e; subst e
     obtain rfl := Option.some.inj h
     exact .inl ⟨0, _, .head _, e0, ⟨nx, rfl, rfl⟩, rfl, rfl⟩
    ·rename_i hl
     obtain ⟨g1, g2⟩ := hoff l' bb h hl
     exact .inr ⟨by simp only [ju, if_neg (fun e => hl (Eq.symm e)), if_neg hln], g2, g1⟩
 rcases h1 with ⟨u, h1, rfl⟩ | ⟨l2, u, h1, h5⟩
 ·have g4 : ∀ l' i, (l', i) ∈ [(l, 0), (lw, 1)] → look m l' ≠ none := by
   intro l' i h
   rcases List.mem_cons.1 h with h | h
   ·obtain ⟨rfl, rfl⟩ := Prod.mk.inj h; rw [h1]; simp
   ·obtain ⟨rfl, rfl⟩ := Prod.mk.inj (List.mem_singleton.1 h); rw [h2]; simp
  have g3 : eQ 0 3 [(l, 0), (lw, 1)] = true := by simp [eQ, b1, b2]; rfl
  have g5 : ∀ i b, look [(0, bm.bld none 0 u), (1, .buf 1 (ws.map D.str))] i = some b → ∃ l' b', (l', i) ∈ [(l, 0), (lw, 1)] ∧ look m l' = some b' ∧ nw 0 [(l, 0), (lw, 1)] b' b := by
   intro i b h
   simp only [look] at h
   split at h
   ·rename_i e; subst e; obtain rfl := Option.some.inj h
    exact ⟨l, _, .head _, h1, rfl, rfl, rfl⟩
   ·split at h
    ·rename_i e; subst e; obtain rfl := Option.some.inj h
     exact ⟨lw, _, .tail _ (.head _), h2, rfl, .inl ⟨rfl, hnl⟩⟩
    ·cases h
  refine yF (σi := [(l, 0), (lw, 1)]) (cs := [.ptr 0 2 0 0, .own 1 1 0 ws.length]) (fun q => bd t key _ q) hmix hC rfl ?_ hnp g3 g4 g5 (hw _ (.inl ⟨u, rfl, rfl⟩) rfl) (fin _ _ g3 (.head _) g4 g5 ?_)
  ·intro i hi
   match i, hi with
   | 0, _ => exact .inr (.inl (by simp [qI, BZ, kn]))
   | 1, _ => exact .inr (.inl (by simp [qI, BZ, kn, b1]))
  ·intro l' b h hl
   rw [sD hlw] at h
   simp only [h1] at h
   rw [dJ] at h
   split at h
   ·cases h
   ·rename_i hw'
    refine ⟨h, fun i hi => ?_⟩
    rcases List.mem_cons.1 hi with hi | hi
    ·exact hl (Prod.mk.inj hi).1
    ·exact hw' (Prod.mk.inj (List.mem_singleton.1 hi)).1
 ·have c1 : l2 ≠ l := by rintro rfl; rw [h1] at h5; cases h5
  have c2 : l2 ≠ lw := by rintro rfl; rw [h2] at h5; cases h5
  have d1 := lQ c1
  have d2 := lQ c2
  have d3 := lQ (Ne.symm c1)
  have d4 := lQ (Ne.symm c2)
  have g4 : ∀ l' i, (l', i) ∈ [(l, 0), (lw, 1), (l2, 2)] → look m l' ≠ none := by
   intro l' i h
   rcases List.mem_cons.1 h with h | h
   ·obtain ⟨rfl, rfl⟩ := Prod.mk.inj h; rw [h1]; simp
   ·rcases List.mem_cons.1 h with h | h
    ·obtain ⟨rfl, rfl⟩ := Prod.mk.inj h; rw [h2]; simp
    ·obtain ⟨rfl, rfl⟩ := Prod.mk.inj (List.mem_singleton.1 h); rw [h5]; simp
  have g3 : eQ 0 3 [(l, 0), (lw, 1), (l2, 2)] = true := by simp [eQ, b1, b2, d1, d2, d3, d4]; exact ⟨⟨rfl, rfl⟩, rfl⟩
  have g5 : ∀ i b, look [(0, bm.bld (some 2) s.length u), (1, .buf 1 (ws.map D.str)), (2, .row s)] i = some b → ∃ l' b', (l', i) ∈ [(l, 0), (lw, 1), (l2, 2)] ∧ look m l' = some b' ∧ nw 0 [(l, 0), (lw, 1), (l2, 2)] b' b := by
   intro i b h
   simp only [look] at h
   split at h
   ·rename_i e; subst e; obtain rfl := Option.some.inj h
    exact ⟨l, _, .head _, h1, ⟨2, by simp [kn, d3, d4], rfl⟩, rfl, rfl⟩
   ·split at h
    ·rename_i e; subst e; obtain rfl := Option.some.inj h
     exact ⟨lw, _, .tail _ (.head _), h2, rfl, .inl ⟨rfl, hnl⟩⟩
    ·split at h
     ·rename_i e; subst e; obtain rfl := Option.some.inj h
      exact ⟨l2, _, .tail _ (.tail _ (.head _)), h5, rfl⟩
     ·cases h
  refine yF (σi := [(l, 0), (lw, 1), (l2, 2)]) (cs := [.ptr 0 2 0 0, .own 1 1 0 ws.length]) (fun q => bd t key _ q) hmix hC rfl ?_ hnp g3 g4 g5 (hw _ (.inr ⟨2, u, rfl, rfl⟩) rfl) (fin _ _ g3 (.head _) g4 g5 ?_)
  ·intro i hi
   match i, hi with
   | 0, _ => exact .inr (.inl (by simp [qI, BZ, kn]))
   | 1, _ => exact .inr (.inl (by simp [qI, BZ, kn, b1]))
  ·intro l' b h hl
   rw [sD hlw] at h
   simp only [h1] at h
   rw [dJ] at h
   split at h
   ·cases h
   ·rename_i hw2
    rw [dJ] at h
    split at h
    ·cases h
    ·rename_i hw'
     refine ⟨h, fun i hi => ?_⟩
     rcases List.mem_cons.1 hi with hi | hi
     ·exact hl (Prod.mk.inj hi).1
     ·rcases List.mem_cons.1 hi with hi | hi
      ·exact hw' (Prod.mk.inj hi).1
      ·exact hw2 (Prod.mk.inj (List.mem_singleton.1 hi)).1
end
end Go.Abs
end
namespace Go.Abs
theorem qG {α : Type} {f : α → D} (hf : ∀ x y, f x = f y ↔ x = y) : ∀ a b : List α, a.map f = b.map f ↔ a = b
 | [], [] => by simp
 | [], _ :: _ => by simp
 | _ :: _, [] => by simp
 | x :: a, y :: b => by simp only [List.map_cons, List.cons.injEq, hf, qG hf a b]
theorem C7 (a b : Nat) : ((a : Nat) : Int) = (b : Nat) ↔ a = b := by omega
theorem iU8 (x y : UInt8) : ((x.toNat : Nat) : Int) = (y.toNat : Nat) ↔ x = y := (C7 _ _).trans UInt8.toNat_inj
theorem zG (a b : List aq) : a.map D.str = b.map D.str ↔ a = b := qG (fun _ _ => by simp) a b
theorem iInt (a b : List Int) : a.map (D.int .i64) = b.map (D.int .i64) ↔ a = b := qG (fun _ _ => by simp) a b
theorem iByt (a b : aq) : (a.map fun c => D.int .u8 c.toNat) = (b.map fun c => D.int .u8 c.toNat) ↔ a = b := qG (fun x y => by rw [D.int.injEq, iU8]; simp) a b
theorem iVer (a b : dP) : dP.D a = dP.D b ↔ a = b := by cases a; cases b; simp [dP.D]
theorem Ei (a b : aR) : aR.D a = aR.D b ↔ a = b := by cases a; cases b; simp [aR.D, zG]
theorem A5 (a b : List aR) : a.map aR.D = b.map aR.D ↔ a = b := qG Ei a b
theorem Eh (a b : aJ) : aJ.D a = aJ.D b ↔ a = b := by cases a; cases b; simp [aJ.D, A5]
theorem A4 (a b : List aJ) : a.map aJ.D = b.map aJ.D ↔ a = b := qG Eh a b
theorem HK (a b : ec) : ec.D a = ec.D b ↔ a = b := by cases a; cases b; simp [ec.D]
theorem Ee (a b : List ec) : a.map ec.D = b.map ec.D ↔ a = b := qG HK a b
theorem Eg (a b : ba) : ba.D a = ba.D b ↔ a = b := by cases a; cases b; simp [ba.D, zG]
theorem A3 (a b : List ba) : a.map ba.D = b.map ba.D ↔ a = b := qG Eg a b
theorem iRec (a b : Rec) : Rec.D a = Rec.D b ↔ a = b := by
 obtain ⟨n, ⟨v1, v2, v3, v4, v5⟩, x, y, z⟩ := a
 obtain ⟨n', ⟨w1, w2, w3, w4, w5⟩, x', y', z'⟩ := b
 simp [Rec.D, A4, Ee, A3, and_assoc]
theorem HL (a b : cL) : cL.D a = cL.D b ↔ a = b := by
 obtain ⟨n, p, v1, v2, v3, v4, v5⟩ := a
 obtain ⟨n', p', w1, w2, w3, w4, w5⟩ := b
 simp [cL.D]
theorem Ef (a b : List cL) : a.map cL.D = b.map cL.D ↔ a = b := qG HL a b
theorem iNd (a b : Nd) : Nd.D a = Nd.D b ↔ a = b := by cases a; cases b; simp [Nd.D]
theorem HM (a b : List Nd) : a.map Nd.D = b.map Nd.D ↔ a = b := qG iNd a b
theorem Ff (a b : Alt) : om a = om b ↔ a = b := by simp [om, Ef]
theorem iRng (a b : uC) : fM a = fM b ↔ a = b := by simp [fM, qG Ff]
theorem HJ (a b : List Alt) : a.map om = b.map om ↔ a = b := qG Ff a b
theorem iMrk (a b : D6) : iL a = iL b ↔ a = b := by simp [iL, HM]
theorem iLd (a b : Ld) : Ld.D a = Ld.D b ↔ a = b := by cases a; cases b; simp [Ld.D, zG, C7]
theorem iPr (w w' : List aq) (x x' : D) (b b' : Bool) : dS w x b = dS w' x' b' ↔ w = w' ∧ x = x' ∧ b = b' := by simp [dS, zG]
theorem b7 {A : RT → Prop} (h : A (fun ds d => A fun ds' d' => ds' = ds → d = d') := by
 (repeat' first | apply And.intro | intro _)
 all_goals rename_i e
 all_goals (try simp only [List.cons.injEq, D.str.injEq, D.int.injEq, D.bool.injEq, D.sl.injEq, D.ref.injEq, D.agg.injEq, zG, iInt, iByt, iVer, Ei, A5, Eh, A4, HK, Ee, Eg, A3, iRec, HL, Ef, iNd, HM, Ff, iRng, HJ, iMrk, iPr, iU8, C7, and_true, true_and, reduceCtorEq, and_false, false_and] at e)
 all_goals first | rfl | (simp only [e]; done) | simp_all) : G6 (uV A) := Fb h
theorem CT {A : FT → Prop} (h : A (fun d ds v s => A fun d' ds' v' s' => d' = d → ds' = ds → v = v' ∧ s = s') := by
 (repeat' first | apply And.intro | intro _)
 all_goals rename_i e' e
 all_goals (try simp only [List.cons.injEq, D.str.injEq, D.int.injEq, D.bool.injEq, D.sl.injEq, iLd, zG, iU8, C7, and_true, true_and] at e e')
 all_goals first | rfl | (simp only [e, e']; done) | simp_all) : rq (ke A) := CU h
end Go.Abs
section
namespace Go.Abs
open Go
def fg : aI := { np := 2, ns := 5, res := [⟨2, none⟩], rsh := [[.a]], body := (.seq (rg [gb 4 s0, gb 4 s1, gm (cb false)] [(3, 0), (4, 1), (2, 2)]) (.seq (rg [gf 0 s3, gd l0, gf 0 s4, gd l2, gn (bA l1 l3), gm l4, ⟨.fa 1 s3, some (5, true)⟩, ⟨.ld 1 false l6, some (5, true)⟩, ⟨.fa 1 s4, some (5, true)⟩, ⟨.ld 1 false l8, some (5, true)⟩, ⟨.bin .eql l7 l9, some (5, true)⟩, gn (.pick l5 l10 (cb false)), gm kl, ⟨.fa 3 s3, some (12, true)⟩, ⟨.ld 1 false nB, some (12, true)⟩, ⟨.fa 3 s4, some (12, true)⟩, ⟨.ld 1 false oN, some (12, true)⟩, ⟨.eqA false false [.b] nW qm, some (12, true)⟩, gn (.pick lJ rT (cb false)), gm rU, ⟨.fa 2 s3, some (19, true)⟩, ⟨.ld 1 false vz, some (19, true)⟩, ⟨.fa 2 s4, some (19, true)⟩, ⟨.ld 1 false xf, some (19, true)⟩, ⟨.call 486 [wi, yI] [[.sl 1 [.a]], [.sl 1 [.a]]], some (19, true)⟩, gn (.pick tK zK (cb false)), gm At] [(2, 26)]) .ret)) }
theorem w485 {Γ : Ctx} (hm : (Γ.at 0).bN) (h486 : EG (Γ.at 0)) (a : aR) (b : aR)   : bo (Γ.at 0) fg.body (eC fg (.bool (decide (a = b))) : Ex → List aN → St → Prop) (bF fg [aR.D a, aR.D b]) ⟨0, []⟩ := by
 show bo _ _ _ [⟨true, aR.D a⟩, ⟨true, aR.D b⟩, .un, .un, .un] ⟨0, []⟩
 refine aw ?_
 refine aZ ?_
 refine aZ ?_
 refine ae ?_
 refine ai [(2, ⟨_, .bool _⟩), (3, ⟨_, _⟩), (4, ⟨_, _⟩)] ?_
 iterate 2 refine ae ?_
 refine aj (v := (.str _)) ?_
 refine ae ?_
 refine aj (v := (.str _)) ?_
 refine cH ?_
 iterate 2 refine ae ?_
 refine aj (v := (.str _)) ?_
 refine ae ?_
 refine aj (v := (.str _)) ?_
 refine cH ?_
 refine bK ?_
 iterate 2 refine ae ?_
 refine aj (v := (.bool _)) ?_
 refine ae ?_
 refine aj (v := (.bool _)) ?_
 refine wJ (hb := CW _ _) ?_
 refine bK ?_
 iterate 2 refine ae ?_
 first | refine aj (v := .sl _ _) ?_ | refine aj (v := .own _ _ _ _) ?_ | refine aj (v := .av) ?_
 refine ae ?_
 first | refine aj (v := .sl _ _) ?_ | refine aj (v := .own _ _ _ _) ?_ | refine aj (v := .av) ?_
 refine ay (hc := h486 _ _) ?_
 refine bK ?_
 refine ae ?_
 refine ai [(2, ⟨_, .bool _⟩)] ?_
 refine ae ?_
 refine aB (congrArg D.bool ?_)
 rw [aR.mr a b]
def GK (Γ : Ctx) : Prop := ∀ (a : aR) (b : aR), Γ.pre 485 [aR.D a, aR.D b] ∧ Γ.val 485 [aR.D a, aR.D b] = .bool (decide (a = b))
def di : aI := { np := 3, ns := 13, res := [⟨3, none⟩], rsh := [[.a]], body := (.seq (rg [gm (cb false)] [(3, 0)]) (.seq (.seq (rg [gm s0, gl l0, gm s1, gl l2, gn (cN l1 l3)] [(4, 4)]) (.cond s4 (.seq (rg [gm (cb false)] [(3, 0)]) .ret) .skip)) (.seq (.seq (rg [gm s0, gl l0, gm (i6 0)] [(8, 0), (6, 1), (5, 2)]) (.block 0 (.loop (.seq (rg [gn (bQ s5 s6)] [(7, 0)]) (.seq (.cond s7 .skip (.exit 0)) (.seq (.block 1 (.seq (rg [gm s5, ga 4 s8 s5, gk 4 true l1, gb 4 (.c (.agg [.str [], .str [], .av, .bool false])), gm l0, gt 4 l3 l2] [(10, 3), (9, 4)]) (.seq (rg [gm s1, gm s9, ga 4 l0 l1, gk 4 true l2, gb 4 (.c (.agg [.str [], .str [], .av, .bool false])), gt 4 l4 l3] [(11, 4)]) (.seq (rg [gm s2, gk 4 true kF, gk 4 true mV, gn (.callv l0 [l1, l2] [[.a, .a, .sl 1 [.a], .a], [.a, .a, .sl 1 [.a], .a]]), gn (.un .not l3)] [(12, 4)]) (.cond jV (.seq (rg [gm (cb false)] [(3, 0)]) .ret) .skip))))) (rg [gn (bh s5 (i6 1)), gm l0] [(5, 1)]))))))) (.seq (rg [gm (cb true)] [(3, 0)]) .ret)))) }
theorem w484 {Γ : Ctx} (hm : (Γ.at 0).bN) (h485 : GK (Γ.at 0)) (a : List aR) (b : List aR)   : bo (Γ.at 0) di.body (eC di (.bool (decide (a = b))) : Ex → List aN → St → Prop) (bF di [.sl 4 (a.map aR.D), .sl 4 (b.map aR.D), .fn 485 []]) ⟨0, []⟩ := by
 show bo _ _ _ [⟨true, .sl 4 (a.map aR.D)⟩, ⟨true, .sl 4 (b.map aR.D)⟩, ⟨true, .fn 485 []⟩, .un, .un, .un, .un, .un, .un, .un, .un, .un, .un] ⟨0, []⟩
 refine aw ?_
 refine ae ?_
 refine ai [(3, ⟨_, .bool _⟩)] ?_
 iterate 3 refine ae ?_
 refine aC fun u0 => ?_; specialize u0 rfl rfl
 refine ae ?_
 refine aC fun u1 => ?_; specialize u1 rfl rfl
 refine bU ?_
 refine ai [(4, ⟨_, .bool _⟩)] ?_
 refine ak (fun hc0 => ?_) (fun hc0 => ?_)
 ·try simp only [au] at hc0
  iterate 3 refine ae ?_
  refine ai [(3, ⟨_, .bool _⟩)] ?_
  refine ae ?_
  refine aB (congrArg D.bool ?_)
  symm; rw [decide_eq_false_iff_not]; rintro rfl; simp at hc0
 ·try simp only [au] at hc0
  iterate 4 refine ae ?_
  refine aC fun u2 => ?_; specialize u2 rfl rfl
  refine ae ?_
  refine ai [(5, ⟨_, .int _ _⟩), (6, ⟨_, .int _ _⟩), (8, ⟨_, .sl _ _⟩)] ?_
  have hb := eA (show a.length = b.length by omega)
  refine bz hm (ι := Nat) (fun i => [.un, ⟨true, .sl 4 (b.map aR.D)⟩, ⟨true, .fn 485 []⟩, .un, .un, ⟨true, .int .i64 (i : Nat)⟩, ⟨true, .int .i64 (a.length : Nat)⟩, .un, ⟨true, .sl 4 (a.map aR.D)⟩, .un, .un, .un, .un]) (fun i => []) 9 (fun i => i ≤ a.length ∧ decide (a = b) = bO (fun i => decide (a[i]! = b[i]!)) i a.length) (fun i => a.length - i) 0 ⟨by omega, hb⟩ (az.to [] ah ah aX bJ) ?_
  rintro i ⟨hi, hr⟩
  refine ae ?_
  refine aW ?_
  refine ai [(7, ⟨_, .bool _⟩)] ?_
  refine ak (fun hc1 => ?_) (fun hc1 => ?_)
  ·try simp only [au] at hc1
   refine ae ?_
   refine ax ?_ hm
   iterate 2 refine ae ?_
   first | refine aP _ ?_ | refine br ?_
   first | refine aS (v := (aR.D _)) ?_ | refine bH (v := (aR.D _)) ?_
   refine aZ ?_
   refine ae ?_
   refine aM _ ?_
   refine ai [(9, ⟨_, .int _ _⟩), (10, ⟨_, _⟩)] ?_
   iterate 3 refine ae ?_
   first | refine aP _ ?_ | refine br ?_
   first | refine aS (v := (aR.D _)) ?_ | refine bH (v := (aR.D _)) ?_
   refine aZ ?_
   refine aM _ ?_
   refine ai [(11, ⟨_, _⟩)] ?_
   iterate 2 refine ae ?_
   refine bG ?_
   refine bG ?_
   refine ve (hc := fun _ => h485 a[i]! b[i]!) ?_
   refine ct ?_
   refine ai [(12, ⟨_, .bool _⟩)] ?_
   refine wp_cond (fun hc2 => ?_) (fun hc2 => ?_)
   ·simp only [Bool.not_eq_true', decide_eq_false_iff_not] at hc2
    iterate 2 refine ae ?_
    refine ai [(3, ⟨_, .bool _⟩)] ?_
    iterate 3 refine ae ?_
    refine aB (congrArg D.bool ?_)
    rw [hr, aD (by omega), decide_eq_false hc2]; rfl
   ·simp only [Bool.not_eq_false', decide_eq_true_eq] at hc2
    iterate 3 refine ae ?_
    refine aF ?_
    refine ae ?_
    refine bL [(5, ⟨_, .int _ _⟩)] ?_
    refine ae ?_
    exact ⟨i + 1, ⟨by omega, by rw [hr, aD (by omega), decide_eq_true hc2]; rfl⟩, by omega, (az.to [] ah ah aX bJ)⟩
  ·try simp only [au] at hc1
   iterate 4 refine ae ?_
   refine ai [(3, ⟨_, .bool _⟩)] ?_
   refine ae ?_
   refine aB (congrArg D.bool ?_)
   rw [hr, bD (by omega)]
def GJ (Γ : Ctx) : Prop := ∀ (a : List aR) (b : List aR), Γ.pre 484 [.sl 4 (a.map aR.D), .sl 4 (b.map aR.D), .fn 485 []] ∧ Γ.val 484 [.sl 4 (a.map aR.D), .sl 4 (b.map aR.D), .fn 485 []] = .bool (decide (a = b))
def ff : aI := { np := 2, ns := 5, res := [⟨2, none⟩], rsh := [[.a]], body := (.seq (rg [gb 3 s0, gb 3 s1, gm (cb false)] [(3, 0), (4, 1), (2, 2)]) (.seq (rg [gf 1 s3, gd l0, gf 1 s4, gd l2, gn (bA l1 l3), gm l4, ⟨.fa 2 s3, some (5, true)⟩, ⟨.ld 1 false l6, some (5, true)⟩, ⟨.fa 2 s4, some (5, true)⟩, ⟨.ld 1 false l8, some (5, true)⟩, ⟨.bin .eql l7 l9, some (5, true)⟩, gn (.pick l5 l10 (cb false)), gm kl, ⟨.fa 0 s3, some (12, true)⟩, ⟨.ld 1 false nB, some (12, true)⟩, ⟨.fa 0 s4, some (12, true)⟩, ⟨.ld 1 false oN, some (12, true)⟩, ⟨.call 484 [nW, qm, (.c (.fn 485 []))] [[.sl 4 [.a, .a, .sl 1 [.a], .a]], [.sl 4 [.a, .a, .sl 1 [.a], .a]], [.a]], some (12, true)⟩, gn (.pick lJ rT (cb false)), gm rU] [(2, 19)]) .ret)) }
theorem w234 {Γ : Ctx} (hm : (Γ.at 0).bN) (h484 : GJ (Γ.at 0)) (a : aJ) (b : aJ)   : bo (Γ.at 0) ff.body (eC ff (.bool (decide (a = b))) : Ex → List aN → St → Prop) (bF ff [aJ.D a, aJ.D b]) ⟨0, []⟩ := by
 show bo _ _ _ [⟨true, aJ.D a⟩, ⟨true, aJ.D b⟩, .un, .un, .un] ⟨0, []⟩
 refine aw ?_
 refine aZ ?_
 refine aZ ?_
 refine ae ?_
 refine ai [(2, ⟨_, .bool _⟩), (3, ⟨_, _⟩), (4, ⟨_, _⟩)] ?_
 iterate 2 refine ae ?_
 refine aj (v := (.str _)) ?_
 refine ae ?_
 refine aj (v := (.str _)) ?_
 refine cH ?_
 iterate 2 refine ae ?_
 refine aj (v := (.str _)) ?_
 refine ae ?_
 refine aj (v := (.str _)) ?_
 refine cH ?_
 refine bK ?_
 iterate 2 refine ae ?_
 first | refine aj (v := .sl _ _) ?_ | refine aj (v := .own _ _ _ _) ?_ | refine aj (v := .av) ?_
 refine ae ?_
 first | refine aj (v := .sl _ _) ?_ | refine aj (v := .own _ _ _ _) ?_ | refine aj (v := .av) ?_
 refine ay (hc := h484 a.any b.any) ?_
 refine bK ?_
 refine ae ?_
 refine ai [(2, ⟨_, .bool _⟩)] ?_
 refine ae ?_
 refine aB (congrArg D.bool ?_)
 rw [aJ.mr a b]
def Gl (Γ : Ctx) : Prop := ∀ (a : aJ) (b : aJ), Γ.pre 234 [aJ.D a, aJ.D b] ∧ Γ.val 234 [aJ.D a, aJ.D b] = .bool (decide (a = b))
def dW : aI := { np := 2, ns := 5, res := [⟨2, none⟩], rsh := [[.a]], body := (.seq (rg [gb 2 s0, gb 2 s1, gm (cb false)] [(3, 0), (4, 1), (2, 2)]) (.seq (rg [gf 0 s3, gd l0, gf 0 s4, gd l2, gn (bA l1 l3), gm l4, ⟨.fa 1 s3, some (5, true)⟩, ⟨.ld 1 false l6, some (5, true)⟩, ⟨.fa 1 s4, some (5, true)⟩, ⟨.ld 1 false l8, some (5, true)⟩, ⟨.call 486 [l7, l9] [[.sl 1 [.a]], [.sl 1 [.a]]], some (5, true)⟩, gn (.pick l5 l10 (cb false)), gm kl] [(2, 12)]) .ret)) }
theorem w237 {Γ : Ctx} (hm : (Γ.at 0).bN) (h486 : EG (Γ.at 0)) (a : ba) (b : ba)   : bo (Γ.at 0) dW.body (eC dW (.bool (decide (a = b))) : Ex → List aN → St → Prop) (bF dW [ba.D a, ba.D b]) ⟨0, []⟩ := by
 show bo _ _ _ [⟨true, ba.D a⟩, ⟨true, ba.D b⟩, .un, .un, .un] ⟨0, []⟩
 refine aw ?_
 refine aZ ?_
 refine aZ ?_
 refine ae ?_
 refine ai [(2, ⟨_, .bool _⟩), (3, ⟨_, _⟩), (4, ⟨_, _⟩)] ?_
 iterate 2 refine ae ?_
 refine aj (v := (.str _)) ?_
 refine ae ?_
 refine aj (v := (.str _)) ?_
 refine cH ?_
 iterate 2 refine ae ?_
 first | refine aj (v := .sl _ _) ?_ | refine aj (v := .own _ _ _ _) ?_ | refine aj (v := .av) ?_
 refine ae ?_
 first | refine aj (v := .sl _ _) ?_ | refine aj (v := .own _ _ _ _) ?_ | refine aj (v := .av) ?_
 refine ay (hc := h486 _ _) ?_
 refine bK ?_
 refine ae ?_
 refine ai [(2, ⟨_, .bool _⟩)] ?_
 refine ae ?_
 refine aB (congrArg D.bool ?_)
 obtain ⟨a1, a2⟩ := a
 obtain ⟨b1, b2⟩ := b
 simp only [ba.mk.injEq, Bool.decide_and]
def Gp (Γ : Ctx) : Prop := ∀ (a : ba) (b : ba), Γ.pre 237 [ba.D a, ba.D b] ∧ Γ.val 237 [ba.D a, ba.D b] = .bool (decide (a = b))
def dh : aI := { np := 3, ns := 13, res := [⟨3, none⟩], rsh := [[.a]], body := (.seq (rg [gm (cb false)] [(3, 0)]) (.seq (.seq (rg [gm s0, gl l0, gm s1, gl l2, gn (cN l1 l3)] [(4, 4)]) (.cond s4 (.seq (rg [gm (cb false)] [(3, 0)]) .ret) .skip)) (.seq (.seq (rg [gm s0, gl l0, gm (i6 0)] [(8, 0), (6, 1), (5, 2)]) (.block 0 (.loop (.seq (rg [gn (bQ s5 s6)] [(7, 0)]) (.seq (.cond s7 .skip (.exit 0)) (.seq (.block 1 (.seq (rg [gm s5, ga 3 s8 s5, gk 3 true l1, gb 3 (.c (.agg [.av, .str [], .str []])), gm l0, gt 3 l3 l2] [(10, 3), (9, 4)]) (.seq (rg [gm s1, gm s9, ga 3 l0 l1, gk 3 true l2, gb 3 (.c (.agg [.av, .str [], .str []])), gt 3 l4 l3] [(11, 4)]) (.seq (rg [gm s2, gk 3 true kF, gk 3 true mV, gn (.callv l0 [l1, l2] [[.sl 4 [.a, .a, .sl 1 [.a], .a], .a, .a], [.sl 4 [.a, .a, .sl 1 [.a], .a], .a, .a]]), gn (.un .not l3)] [(12, 4)]) (.cond jV (.seq (rg [gm (cb false)] [(3, 0)]) .ret) .skip))))) (rg [gn (bh s5 (i6 1)), gm l0] [(5, 1)]))))))) (.seq (rg [gm (cb true)] [(3, 0)]) .ret)))) }
theorem w233 {Γ : Ctx} (hm : (Γ.at 0).bN) (h234 : Gl (Γ.at 0)) (a : List aJ) (b : List aJ)   : bo (Γ.at 0) dh.body (eC dh (.bool (decide (a = b))) : Ex → List aN → St → Prop) (bF dh [.sl 3 (a.map aJ.D), .sl 3 (b.map aJ.D), .fn 234 []]) ⟨0, []⟩ := by
 show bo _ _ _ [⟨true, .sl 3 (a.map aJ.D)⟩, ⟨true, .sl 3 (b.map aJ.D)⟩, ⟨true, .fn 234 []⟩, .un, .un, .un, .un, .un, .un, .un, .un, .un, .un] ⟨0, []⟩
 refine aw ?_
 refine ae ?_
 refine ai [(3, ⟨_, .bool _⟩)] ?_
 iterate 3 refine ae ?_
 refine aC fun u0 => ?_; specialize u0 rfl rfl
 refine ae ?_
 refine aC fun u1 => ?_; specialize u1 rfl rfl
 refine bU ?_
 refine ai [(4, ⟨_, .bool _⟩)] ?_
 refine ak (fun hc0 => ?_) (fun hc0 => ?_)
 ·try simp only [au] at hc0
  iterate 3 refine ae ?_
  refine ai [(3, ⟨_, .bool _⟩)] ?_
  refine ae ?_
  refine aB (congrArg D.bool ?_)
  symm; rw [decide_eq_false_iff_not]; rintro rfl; simp at hc0
 ·try simp only [au] at hc0
  iterate 4 refine ae ?_
  refine aC fun u2 => ?_; specialize u2 rfl rfl
  refine ae ?_
  refine ai [(5, ⟨_, .int _ _⟩), (6, ⟨_, .int _ _⟩), (8, ⟨_, .sl _ _⟩)] ?_
  have hb := eA (show a.length = b.length by omega)
  refine bz hm (ι := Nat) (fun i => [.un, ⟨true, .sl 3 (b.map aJ.D)⟩, ⟨true, .fn 234 []⟩, .un, .un, ⟨true, .int .i64 (i : Nat)⟩, ⟨true, .int .i64 (a.length : Nat)⟩, .un, ⟨true, .sl 3 (a.map aJ.D)⟩, .un, .un, .un, .un]) (fun i => []) 9 (fun i => i ≤ a.length ∧ decide (a = b) = bO (fun i => decide (a[i]! = b[i]!)) i a.length) (fun i => a.length - i) 0 ⟨by omega, hb⟩ (az.to [] ah ah aX bJ) ?_
  rintro i ⟨hi, hr⟩
  refine ae ?_
  refine aW ?_
  refine ai [(7, ⟨_, .bool _⟩)] ?_
  refine ak (fun hc1 => ?_) (fun hc1 => ?_)
  ·try simp only [au] at hc1
   refine ae ?_
   refine ax ?_ hm
   iterate 2 refine ae ?_
   first | refine aP _ ?_ | refine br ?_
   first | refine aS (v := (aJ.D _)) ?_ | refine bH (v := (aJ.D _)) ?_
   refine aZ ?_
   refine ae ?_
   refine aM _ ?_
   refine ai [(9, ⟨_, .int _ _⟩), (10, ⟨_, _⟩)] ?_
   iterate 3 refine ae ?_
   first | refine aP _ ?_ | refine br ?_
   first | refine aS (v := (aJ.D _)) ?_ | refine bH (v := (aJ.D _)) ?_
   refine aZ ?_
   refine aM _ ?_
   refine ai [(11, ⟨_, _⟩)] ?_
   iterate 2 refine ae ?_
   refine bG ?_
   refine bG ?_
   refine ve (hc := fun _ => h234 a[i]! b[i]!) ?_
   refine ct ?_
   refine ai [(12, ⟨_, .bool _⟩)] ?_
   refine wp_cond (fun hc2 => ?_) (fun hc2 => ?_)
   ·simp only [Bool.not_eq_true', decide_eq_false_iff_not] at hc2
    iterate 2 refine ae ?_
    refine ai [(3, ⟨_, .bool _⟩)] ?_
    iterate 3 refine ae ?_
    refine aB (congrArg D.bool ?_)
    rw [hr, aD (by omega), decide_eq_false hc2]; rfl
   ·simp only [Bool.not_eq_false', decide_eq_true_eq] at hc2
    iterate 3 refine ae ?_
    refine aF ?_
    refine ae ?_
    refine bL [(5, ⟨_, .int _ _⟩)] ?_
    refine ae ?_
    exact ⟨i + 1, ⟨by omega, by rw [hr, aD (by omega), decide_eq_true hc2]; rfl⟩, by omega, (az.to [] ah ah aX bJ)⟩
  ·try simp only [au] at hc1
   iterate 4 refine ae ?_
   refine ai [(3, ⟨_, .bool _⟩)] ?_
   refine ae ?_
   refine aB (congrArg D.bool ?_)
   rw [hr, bD (by omega)]
def Gk (Γ : Ctx) : Prop := ∀ (a : List aJ) (b : List aJ), Γ.pre 233 [.sl 3 (a.map aJ.D), .sl 3 (b.map aJ.D), .fn 234 []] ∧ Γ.val 233 [.sl 3 (a.map aJ.D), .sl 3 (b.map aJ.D), .fn 234 []] = .bool (decide (a = b))
def df : aI := { np := 3, ns := 13, res := [⟨3, none⟩], rsh := [[.a]], body := (.seq (rg [gm (cb false)] [(3, 0)]) (.seq (.seq (rg [gm s0, gl l0, gm s1, gl l2, gn (cN l1 l3)] [(4, 4)]) (.cond s4 (.seq (rg [gm (cb false)] [(3, 0)]) .ret) .skip)) (.seq (.seq (rg [gm s0, gl l0, gm (i6 0)] [(8, 0), (6, 1), (5, 2)]) (.block 0 (.loop (.seq (rg [gn (bQ s5 s6)] [(7, 0)]) (.seq (.cond s7 .skip (.exit 0)) (.seq (.block 1 (.seq (rg [gm s5, ga 2 s8 s5, gk 2 true l1, gb 2 (.c (.agg [.str [], .av])), gm l0, gt 2 l3 l2] [(10, 3), (9, 4)]) (.seq (rg [gm s1, gm s9, ga 2 l0 l1, gk 2 true l2, gb 2 (.c (.agg [.str [], .av])), gt 2 l4 l3] [(11, 4)]) (.seq (rg [gm s2, gk 2 true kF, gk 2 true mV, gn (.callv l0 [l1, l2] [[.a, .sl 1 [.a]], [.a, .sl 1 [.a]]]), gn (.un .not l3)] [(12, 4)]) (.cond jV (.seq (rg [gm (cb false)] [(3, 0)]) .ret) .skip))))) (rg [gn (bh s5 (i6 1)), gm l0] [(5, 1)]))))))) (.seq (rg [gm (cb true)] [(3, 0)]) .ret)))) }
theorem w236 {Γ : Ctx} (hm : (Γ.at 0).bN) (h237 : Gp (Γ.at 0)) (a : List ba) (b : List ba)   : bo (Γ.at 0) df.body (eC df (.bool (decide (a = b))) : Ex → List aN → St → Prop) (bF df [.sl 2 (a.map ba.D), .sl 2 (b.map ba.D), .fn 237 []]) ⟨0, []⟩ := by
 show bo _ _ _ [⟨true, .sl 2 (a.map ba.D)⟩, ⟨true, .sl 2 (b.map ba.D)⟩, ⟨true, .fn 237 []⟩, .un, .un, .un, .un, .un, .un, .un, .un, .un, .un] ⟨0, []⟩
 refine aw ?_
 refine ae ?_
 refine ai [(3, ⟨_, .bool _⟩)] ?_
 iterate 3 refine ae ?_
 refine aC fun u0 => ?_; specialize u0 rfl rfl
 refine ae ?_
 refine aC fun u1 => ?_; specialize u1 rfl rfl
 refine bU ?_
 refine ai [(4, ⟨_, .bool _⟩)] ?_
 refine ak (fun hc0 => ?_) (fun hc0 => ?_)
 ·try simp only [au] at hc0
  iterate 3 refine ae ?_
  refine ai [(3, ⟨_, .bool _⟩)] ?_
  refine ae ?_
  refine aB (congrArg D.bool ?_)
  symm; rw [decide_eq_false_iff_not]; rintro rfl; simp at hc0
 ·try simp only [au] at hc0
  iterate 4 refine ae ?_
  refine aC fun u2 => ?_; specialize u2 rfl rfl
  refine ae ?_
  refine ai [(5, ⟨_, .int _ _⟩), (6, ⟨_, .int _ _⟩), (8, ⟨_, .sl _ _⟩)] ?_
  have hb := eA (show a.length = b.length by omega)
  refine bz hm (ι := Nat) (fun i => [.un, ⟨true, .sl 2 (b.map ba.D)⟩, ⟨true, .fn 237 []⟩, .un, .un, ⟨true, .int .i64 (i : Nat)⟩, ⟨true, .int .i64 (a.length : Nat)⟩, .un, ⟨true, .sl 2 (a.map ba.D)⟩, .un, .un, .un, .un]) (fun i => []) 9 (fun i => i ≤ a.length ∧ decide (a = b) = bO (fun i => decide (a[i]! = b[i]!)) i a.length) (fun i => a.length - i) 0 ⟨by omega, hb⟩ (az.to [] ah ah aX bJ) ?_
  rintro i ⟨hi, hr⟩
  refine ae ?_
  refine aW ?_
  refine ai [(7, ⟨_, .bool _⟩)] ?_
  refine ak (fun hc1 => ?_) (fun hc1 => ?_)
  ·try simp only [au] at hc1
   refine ae ?_
   refine ax ?_ hm
   iterate 2 refine ae ?_
   first | refine aP _ ?_ | refine br ?_
   first | refine aS (v := (ba.D _)) ?_ | refine bH (v := (ba.D _)) ?_
   refine aZ ?_
   refine ae ?_
   refine aM _ ?_
   refine ai [(9, ⟨_, .int _ _⟩), (10, ⟨_, _⟩)] ?_
   iterate 3 refine ae ?_
   first | refine aP _ ?_ | refine br ?_
   first | refine aS (v := (ba.D _)) ?_ | refine bH (v := (ba.D _)) ?_
   refine aZ ?_
   refine aM _ ?_
   refine ai [(11, ⟨_, _⟩)] ?_
   iterate 2 refine ae ?_
   refine bG ?_
   refine bG ?_
   refine ve (hc := fun _ => h237 a[i]! b[i]!) ?_
   refine ct ?_
   refine ai [(12, ⟨_, .bool _⟩)] ?_
   refine wp_cond (fun hc2 => ?_) (fun hc2 => ?_)
   ·simp only [Bool.not_eq_true', decide_eq_false_iff_not] at hc2
    iterate 2 refine ae ?_
    refine ai [(3, ⟨_, .bool _⟩)] ?_
    iterate 3 refine ae ?_
    refine aB (congrArg D.bool ?_)
    rw [hr, aD (by omega), decide_eq_false hc2]; rfl
   ·simp only [Bool.not_eq_false', decide_eq_true_eq] at hc2
    iterate 3 refine ae ?_
    refine aF ?_
    refine ae ?_
    refine bL [(5, ⟨_, .int _ _⟩)] ?_
    refine ae ?_
    exact ⟨i + 1, ⟨by omega, by rw [hr, aD (by omega), decide_eq_true hc2]; rfl⟩, by omega, (az.to [] ah ah aX bJ)⟩
  ·try simp only [au] at hc1
   iterate 4 refine ae ?_
   refine ai [(3, ⟨_, .bool _⟩)] ?_
   refine ae ?_
   refine aB (congrArg D.bool ?_)
   rw [hr, bD (by omega)]
def Gn (Γ : Ctx) : Prop := ∀ (a : List ba) (b : List ba), Γ.pre 236 [.sl 2 (a.map ba.D), .sl 2 (b.map ba.D), .fn 237 []] ∧ Γ.val 236 [.sl 2 (a.map ba.D), .sl 2 (b.map ba.D), .fn 237 []] = .bool (decide (a = b))
def eL : aI := { np := 2, ns := 9, res := [⟨2, none⟩], rsh := [[.a]], body := (.seq (rg [gm (cb false)] [(2, 0)]) (.seq (.seq (rg [gm s0, gl l0, gm s1, gl l2, gn (cN l1 l3)] [(3, 4)]) (.cond s3 (.seq (rg [gm (cb false)] [(2, 0)]) .ret) .skip)) (.seq (.seq (rg [gm s0, gl l0, gm (i6 0)] [(5, 1), (4, 2)]) (.block 0 (.loop (.seq (rg [gn (bQ s4 s5)] [(6, 0)]) (.seq (.cond s6 .skip (.exit 0)) (.seq (.block 1 (.seq (rg [gm s4, gm l0] [(7, 1)]) (.seq (rt [gm s0, gm s7, ga 3 l0 l1, gk 3 true l2, gm s1, gm s7, ga 3 l4 l5, gk 3 true l6, gn (.eqA true true [.s, .s, .s] l3 l7)] [(8, 8)]) (.cond s8 (.seq (rg [gm (cb false)] [(2, 0)]) .ret) .skip)))) (rg [gn (bh s4 (i6 1)), gm l0] [(4, 1)]))))))) (.seq (rg [gm (cb true)] [(2, 0)]) .ret)))) }
theorem w235 {Γ : Ctx} (hm : (Γ.at 0).bN)  (a : List ec) (b : List ec)   : bo (Γ.at 0) eL.body (eC eL (.bool (decide (a = b))) : Ex → List aN → St → Prop) (bF eL [.sl 3 (a.map ec.D), .sl 3 (b.map ec.D)]) ⟨0, []⟩ := by
 show bo _ _ _ [⟨true, .sl 3 (a.map ec.D)⟩, ⟨true, .sl 3 (b.map ec.D)⟩, .un, .un, .un, .un, .un, .un, .un] ⟨0, []⟩
 refine aw ?_
 refine ae ?_
 refine ai [(2, ⟨_, .bool _⟩)] ?_
 iterate 3 refine ae ?_
 refine aC fun u0 => ?_; specialize u0 rfl rfl
 refine ae ?_
 refine aC fun u1 => ?_; specialize u1 rfl rfl
 refine bU ?_
 refine ai [(3, ⟨_, .bool _⟩)] ?_
 refine ak (fun hc0 => ?_) (fun hc0 => ?_)
 ·try simp only [au] at hc0
  iterate 3 refine ae ?_
  refine ai [(2, ⟨_, .bool _⟩)] ?_
  refine ae ?_
  refine aB (congrArg D.bool ?_)
  symm; rw [decide_eq_false_iff_not]; rintro rfl; simp at hc0
 ·try simp only [au] at hc0
  iterate 4 refine ae ?_
  refine aC fun u2 => ?_; specialize u2 rfl rfl
  refine ae ?_
  refine ai [(4, ⟨_, .int _ _⟩), (5, ⟨_, .int _ _⟩)] ?_
  have hb := eA (show a.length = b.length by omega)
  refine bz hm (ι := Nat) (fun i => [⟨true, .sl 3 (a.map ec.D)⟩, ⟨true, .sl 3 (b.map ec.D)⟩, .un, .un, ⟨true, .int .i64 (i : Nat)⟩, ⟨true, .int .i64 (a.length : Nat)⟩, .un, .un, .un]) (fun i => []) 9 (fun i => i ≤ a.length ∧ decide (a = b) = bO (fun i => decide (a[i]! = b[i]!)) i a.length) (fun i => a.length - i) 0 ⟨by omega, hb⟩ (az.to [] ah ah aX bJ) ?_
  rintro i ⟨hi, hr⟩
  refine ae ?_
  refine aW ?_
  refine ai [(6, ⟨_, .bool _⟩)] ?_
  refine ak (fun hc1 => ?_) (fun hc1 => ?_)
  ·try simp only [au] at hc1
   refine ae ?_
   refine ax ?_ hm
   iterate 3 refine ae ?_
   refine ai [(7, ⟨_, .int _ _⟩)] ?_
   iterate 3 refine ae ?_
   first | refine aP _ ?_ | refine br ?_
   first | refine aS (v := (ec.D _)) ?_ | refine bH (v := (ec.D _)) ?_
   iterate 2 refine ae ?_
   first | refine aP _ ?_ | refine br ?_
   first | refine aS (v := (ec.D _)) ?_ | refine bH (v := (ec.D _)) ?_
   refine BS (hb := ec.eq _ _) ?_
   refine ai [(8, ⟨_, .bool _⟩)] ?_
   refine wp_cond (fun hc2 => ?_) (fun hc2 => ?_)
   ·simp only [Bool.not_eq_true', decide_eq_false_iff_not] at hc2
    iterate 2 refine ae ?_
    refine ai [(2, ⟨_, .bool _⟩)] ?_
    iterate 3 refine ae ?_
    refine aB (congrArg D.bool ?_)
    rw [hr, aD (by omega), decide_eq_false hc2]; rfl
   ·simp only [Bool.not_eq_false', decide_eq_true_eq] at hc2
    iterate 3 refine ae ?_
    refine aF ?_
    refine ae ?_
    refine bL [(4, ⟨_, .int _ _⟩)] ?_
    refine ae ?_
    exact ⟨i + 1, ⟨by omega, by rw [hr, aD (by omega), decide_eq_true hc2]; rfl⟩, by omega, (az.to [] ah ah aX bJ)⟩
  ·try simp only [au] at hc1
   iterate 4 refine ae ?_
   refine ai [(2, ⟨_, .bool _⟩)] ?_
   refine ae ?_
   refine aB (congrArg D.bool ?_)
   rw [hr, bD (by omega)]
def Gm (Γ : Ctx) : Prop := ∀ (a : List ec) (b : List ec), Γ.pre 235 [.sl 3 (a.map ec.D), .sl 3 (b.map ec.D)] ∧ Γ.val 235 [.sl 3 (a.map ec.D), .sl 3 (b.map ec.D)] = .bool (decide (a = b))
def jO : aI := { np := 2, ns := 5, res := [⟨2, none⟩], rsh := [[.a]], body := (.seq (rg [gb 9 s0, gb 9 s1, gm (cb false)] [(3, 0), (4, 1), (2, 2)]) (.seq (rg [gf 0 s3, gd l0, gf 0 s4, gd l2, gn (bA l1 l3), gm l4, ⟨.fa 1 s3, some (5, true)⟩, ⟨.ld 5 true l6, some (5, true)⟩, ⟨.fa 1 s4, some (5, true)⟩, ⟨.ld 5 true l8, some (5, true)⟩, ⟨.eqA false true [.i .i64, .i .i64, .i .i64, .s, .s] l7 l9, some (5, true)⟩, gn (.pick l5 l10 (cb false)), gm kl, ⟨.fa 6 s3, some (12, true)⟩, ⟨.ld 1 false nB, some (12, true)⟩, ⟨.fa 6 s4, some (12, true)⟩, ⟨.ld 1 false oN, some (12, true)⟩, ⟨.call 233 [nW, qm, (.c (.fn 234 []))] [[.sl 3 [.sl 4 [.a, .a, .sl 1 [.a], .a], .a, .a]], [.sl 3 [.sl 4 [.a, .a, .sl 1 [.a], .a], .a, .a]], [.a]], some (12, true)⟩, gn (.pick lJ rT (cb false)), gm rU, ⟨.fa 7 s3, some (19, true)⟩, ⟨.ld 1 false vz, some (19, true)⟩, ⟨.fa 7 s4, some (19, true)⟩, ⟨.ld 1 false xf, some (19, true)⟩, ⟨.call 235 [wi, yI] [[.sl 3 [.a, .a, .a]], [.sl 3 [.a, .a, .a]]], some (19, true)⟩, gn (.pick tK zK (cb false)), gm At, ⟨.fa 8 s3, some (26, true)⟩, ⟨.ld 1 false Fi, some (26, true)⟩, ⟨.fa 8 s4, some (26, true)⟩, ⟨.ld 1 false F2, some (26, true)⟩, ⟨.call 236 [F1, HN, (.c (.fn 237 []))] [[.sl 2 [.a, .sl 1 [.a]]], [.sl 2 [.a, .sl 1 [.a]]], [.a]], some (26, true)⟩, gn (.pick Di HO (cb false)), gm HP] [(2, 33)]) .ret)) }
theorem w80 {Γ : Ctx} (hm : (Γ.at 0).bN) (h233 : Gk (Γ.at 0)) (h235 : Gm (Γ.at 0)) (h236 : Gn (Γ.at 0)) (a : Rec) (b : Rec)   : bo (Γ.at 0) jO.body (eC jO (.bool (decide (a = b))) : Ex → List aN → St → Prop) (bF jO [Rec.D a, Rec.D b]) ⟨0, []⟩ := by
 show bo _ _ _ [⟨true, Rec.D a⟩, ⟨true, Rec.D b⟩, .un, .un, .un] ⟨0, []⟩
 refine aw ?_
 refine aZ ?_
 refine aZ ?_
 refine ae ?_
 refine ai [(2, ⟨_, .bool _⟩), (3, ⟨_, _⟩), (4, ⟨_, _⟩)] ?_
 iterate 2 refine ae ?_
 refine aj (v := (.str _)) ?_
 refine ae ?_
 refine aj (v := (.str _)) ?_
 refine cH ?_
 iterate 2 refine ae ?_
 refine aj (v := (dP.D _)) ?_
 refine ae ?_
 refine aj (v := (dP.D _)) ?_
 refine wJ (hb := dP.eq _ _) ?_
 refine bK ?_
 iterate 2 refine ae ?_
 first | refine aj (v := .sl _ _) ?_ | refine aj (v := .own _ _ _ _) ?_ | refine aj (v := .av) ?_
 refine ae ?_
 first | refine aj (v := .sl _ _) ?_ | refine aj (v := .own _ _ _ _) ?_ | refine aj (v := .av) ?_
 refine ay (hc := h233 a.needs b.needs) ?_
 refine bK ?_
 iterate 2 refine ae ?_
 first | refine aj (v := .sl _ _) ?_ | refine aj (v := .own _ _ _ _) ?_ | refine aj (v := .av) ?_
 refine ae ?_
 first | refine aj (v := .sl _ _) ?_ | refine aj (v := .own _ _ _ _) ?_ | refine aj (v := .av) ?_
 refine ay (hc := h235 _ _) ?_
 refine bK ?_
 iterate 2 refine ae ?_
 first | refine aj (v := .sl _ _) ?_ | refine aj (v := .own _ _ _ _) ?_ | refine aj (v := .av) ?_
 refine ae ?_
 first | refine aj (v := .sl _ _) ?_ | refine aj (v := .own _ _ _ _) ?_ | refine aj (v := .av) ?_
 refine ay (hc := h236 a.feats b.feats) ?_
 refine bK ?_
 refine ae ?_
 refine ai [(2, ⟨_, .bool _⟩)] ?_
 refine ae ?_
 refine aB (congrArg D.bool ?_)
 rw [Rec.mr a b]
def C80 (Γ : Ctx) : Prop := ∀ (a : Rec) (b : Rec), Γ.pre 80 [Rec.D a, Rec.D b] ∧ Γ.val 80 [Rec.D a, Rec.D b] = .bool (decide (a = b))
end Go.Abs
end
