/-
  NARROWER THAN 'FOR EVERY INPUT', by the rows' own cells (each row's printed sentence says how): JudgeRows: laid · JudgeProofs: laid · JudgeSound: laid · JudgeOther: laid · JudgeSwaps: laid · JudgeLonger: laid.
  DERIVED. THE GIVEN ROWS OF THIS SEAT. 6 by the template 'for every input the law returns true; each argument reads behind the call as it read before'; 0 by the template 'total and deterministic' (their statements: YtaeimnechonnmaaGreatDoorTotals.lean).
  GIVEN WITH THE SEED: the statements are not yours to turn. If you find one false, say at which input.
  Laid BY PROGRAM, IN A SANDBOX (cutbox-rows.mjs): the forced cells as the released guide's own fill.sh prints them over the translation 6baa44957dc1d565… (all of the seat's roots in one cut). By AI agents, Wed Nov 11 2026. No macro, syntax, notation, axiom, sorry.
-/
import Derived.Test.YtaeimnechonnmaaGreatDoorChecked
import GoSem.Claim
import GoSem.ClaimJoined
import GoSem.ClaimMapViews
import Derived.JoinedTies
import Derived.KernelRfl
namespace Go.Proofs.YtaeimnechonnmaaGreatDoor
/- THE CELL 'sum', in the pinned program and in every row, IS THE sha256 OF THE DUMP (.gsa) THAT YtaeimnechonnmaaGreatDoorProg.lean LOADS. Nothing in Lean hashes anything: it is a label: what it is worth is what the hold of that sum in a sandbox is worth. -/
noncomputable def Tryz.pinned : Pinned := { name := "ytaeimnechonnmaagreatdoor", sum := "6baa44957dc1d5657b7946976d048d1637770c00ad55854a97568210bd76a9f4", checked := Tryz.checked }
namespace Rows
def none {H : Type} : Left H := { results := [], args := [] }

/- WHAT THE LISTED PACKAGE-LEVEL VARIABLES READ AS WHEN THE CALL BEGINS. Each datum BY PROGRAM (the guide's laid-datum.mjs) off the statement by which the dump's own 'gosem.cut.vars' lays the variable. In a bare row this is a premise. The card (YtaeimnechonnmaaGreatDoorCards.lean) ties it to the program's text. -/
def laid_linchpin_set_first {H : Type} : DataW H := .agg [.lit (.int .i64 0), .lit (.int .i64 0), .lit (.int .i64 0), .lit (.string []), .lit (.string [])]

/-- 'linchpinlaw30.JudgeRows': WHATEVER THE INPUT: true; the input reads as it did. -/
def judgeRowsSpec : ChangeSpec := { name := "judgeRows", fn := fun _ => fun
  | [d1, d2, d3, d4] => { results := [.lit (.bool true)], args := [d1, d2, d3, d4] }
  | _ => none }
def judgeRowsRow : OpenClaim := { program := "ytaeimnechonnmaagreatdoor", sum := "6baa44957dc1d5657b7946976d048d1637770c00ad55854a97568210bd76a9f4", func := "linchpin/linchpinlaw30.JudgeRows", spec := "judgeRows", unfollowed := true, recurses := true, named := ["linchpin/set.first"], apart := false, laid := [("linchpin/set.first", laid_linchpin_set_first)] }
def JudgeRowsSaid : Prop := judgeRowsRow.holds Tryz.pinned (OpenSpec.ofChange judgeRowsSpec)

/-- ITS FALSE NEIGHBOUR: 'it returns false'. Refute it at one input. -/
def judgeRowsWrong : ChangeSpec := { name := "judgeRows", fn := fun _ => fun
  | [d1, d2, d3, d4] => { results := [.lit (.bool false)], args := [d1, d2, d3, d4] }
  | _ => none }
def JudgeRowsWrongFalsely : Prop := judgeRowsRow.holds Tryz.pinned (OpenSpec.ofChange judgeRowsWrong)

/-- 'linchpinlaw30.JudgeProofs': WHATEVER THE INPUT: true; the input reads as it did. -/
def judgeProofsSpec : ChangeSpec := { name := "judgeProofs", fn := fun _ => fun
  | [d1, d2, d3, d4, d5, d6] => { results := [.lit (.bool true)], args := [d1, d2, d3, d4, d5, d6] }
  | _ => none }
def judgeProofsRow : OpenClaim := { program := "ytaeimnechonnmaagreatdoor", sum := "6baa44957dc1d5657b7946976d048d1637770c00ad55854a97568210bd76a9f4", func := "linchpin/linchpinlaw30.JudgeProofs", spec := "judgeProofs", unfollowed := true, recurses := true, named := ["linchpin/set.first"], apart := false, laid := [("linchpin/set.first", laid_linchpin_set_first)] }
def JudgeProofsSaid : Prop := judgeProofsRow.holds Tryz.pinned (OpenSpec.ofChange judgeProofsSpec)

/-- ITS FALSE NEIGHBOUR: 'it returns false'. Refute it at one input. -/
def judgeProofsWrong : ChangeSpec := { name := "judgeProofs", fn := fun _ => fun
  | [d1, d2, d3, d4, d5, d6] => { results := [.lit (.bool false)], args := [d1, d2, d3, d4, d5, d6] }
  | _ => none }
def JudgeProofsWrongFalsely : Prop := judgeProofsRow.holds Tryz.pinned (OpenSpec.ofChange judgeProofsWrong)

/-- 'linchpinlaw30.JudgeSound': WHATEVER THE INPUT: true; the input reads as it did. -/
def judgeSoundSpec : ChangeSpec := { name := "judgeSound", fn := fun _ => fun
  | [d1, d2, d3, d4, d5, d6] => { results := [.lit (.bool true)], args := [d1, d2, d3, d4, d5, d6] }
  | _ => none }
def judgeSoundRow : OpenClaim := { program := "ytaeimnechonnmaagreatdoor", sum := "6baa44957dc1d5657b7946976d048d1637770c00ad55854a97568210bd76a9f4", func := "linchpin/linchpinlaw30.JudgeSound", spec := "judgeSound", unfollowed := true, recurses := true, named := ["linchpin/set.first"], apart := false, laid := [("linchpin/set.first", laid_linchpin_set_first)] }
def JudgeSoundSaid : Prop := judgeSoundRow.holds Tryz.pinned (OpenSpec.ofChange judgeSoundSpec)

/-- ITS FALSE NEIGHBOUR: 'it returns false'. Refute it at one input. -/
def judgeSoundWrong : ChangeSpec := { name := "judgeSound", fn := fun _ => fun
  | [d1, d2, d3, d4, d5, d6] => { results := [.lit (.bool false)], args := [d1, d2, d3, d4, d5, d6] }
  | _ => none }
def JudgeSoundWrongFalsely : Prop := judgeSoundRow.holds Tryz.pinned (OpenSpec.ofChange judgeSoundWrong)

/-- 'linchpinlaw30.JudgeOther': WHATEVER THE INPUT: true; the input reads as it did. -/
def judgeOtherSpec : ChangeSpec := { name := "judgeOther", fn := fun _ => fun
  | [d1, d2] => { results := [.lit (.bool true)], args := [d1, d2] }
  | _ => none }
def judgeOtherRow : OpenClaim := { program := "ytaeimnechonnmaagreatdoor", sum := "6baa44957dc1d5657b7946976d048d1637770c00ad55854a97568210bd76a9f4", func := "linchpin/linchpinlaw30.JudgeOther", spec := "judgeOther", unfollowed := true, recurses := true, named := ["linchpin/set.first"], apart := false, laid := [("linchpin/set.first", laid_linchpin_set_first)] }
def JudgeOtherSaid : Prop := judgeOtherRow.holds Tryz.pinned (OpenSpec.ofChange judgeOtherSpec)

/-- ITS FALSE NEIGHBOUR: 'it returns false'. Refute it at one input. -/
def judgeOtherWrong : ChangeSpec := { name := "judgeOther", fn := fun _ => fun
  | [d1, d2] => { results := [.lit (.bool false)], args := [d1, d2] }
  | _ => none }
def JudgeOtherWrongFalsely : Prop := judgeOtherRow.holds Tryz.pinned (OpenSpec.ofChange judgeOtherWrong)

/-- 'linchpinlaw30.JudgeSwaps': WHATEVER THE INPUT: true; the input reads as it did. -/
def judgeSwapsSpec : ChangeSpec := { name := "judgeSwaps", fn := fun _ => fun
  | [d1, d2, d3] => { results := [.lit (.bool true)], args := [d1, d2, d3] }
  | _ => none }
def judgeSwapsRow : OpenClaim := { program := "ytaeimnechonnmaagreatdoor", sum := "6baa44957dc1d5657b7946976d048d1637770c00ad55854a97568210bd76a9f4", func := "linchpin/linchpinlaw30.JudgeSwaps", spec := "judgeSwaps", unfollowed := true, recurses := true, named := ["linchpin/set.first"], apart := false, laid := [("linchpin/set.first", laid_linchpin_set_first)] }
def JudgeSwapsSaid : Prop := judgeSwapsRow.holds Tryz.pinned (OpenSpec.ofChange judgeSwapsSpec)

/-- ITS FALSE NEIGHBOUR: 'it returns false'. Refute it at one input. -/
def judgeSwapsWrong : ChangeSpec := { name := "judgeSwaps", fn := fun _ => fun
  | [d1, d2, d3] => { results := [.lit (.bool false)], args := [d1, d2, d3] }
  | _ => none }
def JudgeSwapsWrongFalsely : Prop := judgeSwapsRow.holds Tryz.pinned (OpenSpec.ofChange judgeSwapsWrong)

/-- 'linchpinlaw30.JudgeLonger': WHATEVER THE INPUT: true; the input reads as it did. -/
def judgeLongerSpec : ChangeSpec := { name := "judgeLonger", fn := fun _ => fun
  | [d1, d2, d3, d4] => { results := [.lit (.bool true)], args := [d1, d2, d3, d4] }
  | _ => none }
def judgeLongerRow : OpenClaim := { program := "ytaeimnechonnmaagreatdoor", sum := "6baa44957dc1d5657b7946976d048d1637770c00ad55854a97568210bd76a9f4", func := "linchpin/linchpinlaw30.JudgeLonger", spec := "judgeLonger", unfollowed := true, recurses := true, named := ["linchpin/set.first"], apart := false, laid := [("linchpin/set.first", laid_linchpin_set_first)] }
def JudgeLongerSaid : Prop := judgeLongerRow.holds Tryz.pinned (OpenSpec.ofChange judgeLongerSpec)

/-- ITS FALSE NEIGHBOUR: 'it returns false'. Refute it at one input. -/
def judgeLongerWrong : ChangeSpec := { name := "judgeLonger", fn := fun _ => fun
  | [d1, d2, d3, d4] => { results := [.lit (.bool false)], args := [d1, d2, d3, d4] }
  | _ => none }
def JudgeLongerWrongFalsely : Prop := judgeLongerRow.holds Tryz.pinned (OpenSpec.ofChange judgeLongerWrong)

/- THE SECOND FORM. 'bulk': how many values and letters a reading holds, each counted each time it is reached (what is shared counts as often as it is met; a slice's spare places count too). A statement '..UptoSaid' is the law's where the arguments, and the package variables that the reading takes, are together of bulk at most 1048576: NARROWER than '..Said'. Prove '..Said' where nothing that the law and all that it calls make is longer than what came in: it says more and counts as full. Else prove '..UptoSaid'. A law counts once. -/
mutual
def uptoBulk {H : Type} : DataW H → Nat
  | .lit (.string bytes) => bytes.length + 1
  | .lit _ => 1
  | .nil => 1
  | .ptr d => uptoBulk d + 1
  | .slice elems spare => uptoBulkAll elems + uptoBulkAll spare + 1
  | .agg parts => uptoBulkAll parts + 1
  | .iface _ d => uptoBulk d + 1
  | .map entries => uptoBulkEntries entries + 1
  | .held _ => 1
def uptoBulkAll {H : Type} : List (DataW H) → Nat
  | [] => 0
  | d :: r => uptoBulk d + uptoBulkAll r
def uptoBulkEntries {H : Type} : List (Lit × DataW H) → Nat
  | [] => 0
  | x :: r => uptoBulkEntry x + uptoBulkEntries r
def uptoBulkEntry {H : Type} : Lit × DataW H → Nat
  | (.string bytes, d) => bytes.length + uptoBulk d + 1
  | (_, d) => uptoBulk d + 1
 end
def uptoSmall : (H : Type) → List (DataW H) → Bool := fun _ ds => decide (uptoBulkAll ds ≤ 1048576)
def OpenSpec.upto (s : _root_.Go.ChangeSpec) : _root_.Go.OpenSpec := { _root_.Go.OpenSpec.ofChange s with cond := some uptoSmall }

/-- 'linchpinlaw30.JudgeRows', WHERE WHAT IT READS IS OF BULK AT MOST 1048576: true; the input reads as it did. -/
def judgeRowsUptoRow : OpenClaim := { program := "ytaeimnechonnmaagreatdoor", sum := "6baa44957dc1d5657b7946976d048d1637770c00ad55854a97568210bd76a9f4", func := "linchpin/linchpinlaw30.JudgeRows", spec := "judgeRows", unfollowed := true, recurses := true, named := ["linchpin/set.first"], apart := false, laid := [("linchpin/set.first", laid_linchpin_set_first)], narrowed := true }
def JudgeRowsUptoSaid : Prop := judgeRowsUptoRow.holds Tryz.pinned (OpenSpec.upto judgeRowsSpec)

/-- 'linchpinlaw30.JudgeProofs', WHERE WHAT IT READS IS OF BULK AT MOST 1048576: true; the input reads as it did. -/
def judgeProofsUptoRow : OpenClaim := { program := "ytaeimnechonnmaagreatdoor", sum := "6baa44957dc1d5657b7946976d048d1637770c00ad55854a97568210bd76a9f4", func := "linchpin/linchpinlaw30.JudgeProofs", spec := "judgeProofs", unfollowed := true, recurses := true, named := ["linchpin/set.first"], apart := false, laid := [("linchpin/set.first", laid_linchpin_set_first)], narrowed := true }
def JudgeProofsUptoSaid : Prop := judgeProofsUptoRow.holds Tryz.pinned (OpenSpec.upto judgeProofsSpec)

/-- 'linchpinlaw30.JudgeSound', WHERE WHAT IT READS IS OF BULK AT MOST 1048576: true; the input reads as it did. -/
def judgeSoundUptoRow : OpenClaim := { program := "ytaeimnechonnmaagreatdoor", sum := "6baa44957dc1d5657b7946976d048d1637770c00ad55854a97568210bd76a9f4", func := "linchpin/linchpinlaw30.JudgeSound", spec := "judgeSound", unfollowed := true, recurses := true, named := ["linchpin/set.first"], apart := false, laid := [("linchpin/set.first", laid_linchpin_set_first)], narrowed := true }
def JudgeSoundUptoSaid : Prop := judgeSoundUptoRow.holds Tryz.pinned (OpenSpec.upto judgeSoundSpec)

/-- 'linchpinlaw30.JudgeOther', WHERE WHAT IT READS IS OF BULK AT MOST 1048576: true; the input reads as it did. -/
def judgeOtherUptoRow : OpenClaim := { program := "ytaeimnechonnmaagreatdoor", sum := "6baa44957dc1d5657b7946976d048d1637770c00ad55854a97568210bd76a9f4", func := "linchpin/linchpinlaw30.JudgeOther", spec := "judgeOther", unfollowed := true, recurses := true, named := ["linchpin/set.first"], apart := false, laid := [("linchpin/set.first", laid_linchpin_set_first)], narrowed := true }
def JudgeOtherUptoSaid : Prop := judgeOtherUptoRow.holds Tryz.pinned (OpenSpec.upto judgeOtherSpec)

/-- 'linchpinlaw30.JudgeSwaps', WHERE WHAT IT READS IS OF BULK AT MOST 1048576: true; the input reads as it did. -/
def judgeSwapsUptoRow : OpenClaim := { program := "ytaeimnechonnmaagreatdoor", sum := "6baa44957dc1d5657b7946976d048d1637770c00ad55854a97568210bd76a9f4", func := "linchpin/linchpinlaw30.JudgeSwaps", spec := "judgeSwaps", unfollowed := true, recurses := true, named := ["linchpin/set.first"], apart := false, laid := [("linchpin/set.first", laid_linchpin_set_first)], narrowed := true }
def JudgeSwapsUptoSaid : Prop := judgeSwapsUptoRow.holds Tryz.pinned (OpenSpec.upto judgeSwapsSpec)

/-- 'linchpinlaw30.JudgeLonger', WHERE WHAT IT READS IS OF BULK AT MOST 1048576: true; the input reads as it did. -/
def judgeLongerUptoRow : OpenClaim := { program := "ytaeimnechonnmaagreatdoor", sum := "6baa44957dc1d5657b7946976d048d1637770c00ad55854a97568210bd76a9f4", func := "linchpin/linchpinlaw30.JudgeLonger", spec := "judgeLonger", unfollowed := true, recurses := true, named := ["linchpin/set.first"], apart := false, laid := [("linchpin/set.first", laid_linchpin_set_first)], narrowed := true }
def JudgeLongerUptoSaid : Prop := judgeLongerUptoRow.holds Tryz.pinned (OpenSpec.upto judgeLongerSpec)

end Rows
end Go.Proofs.YtaeimnechonnmaaGreatDoor
