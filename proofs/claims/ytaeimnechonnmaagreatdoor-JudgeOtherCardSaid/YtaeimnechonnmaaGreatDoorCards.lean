/-
  DERIVED. GIVEN WITH THE SEED: THE CARDS: each row of YtaeimnechonnmaaGreatDoorRows.lean that lists a variable, with what it lists TIED to the program's text (the seventh form; the later family's looks); each row that meets fmt, with fmt's text TOLD by the authors' own Lean function (tested against real Go, not proved from fmt's source: count such statements apart). THE CARD IS WHAT COUNTS. Prove the row's statement (the work); the ties are given (YtaeimnechonnmaaGreatDoorTie.lean); close each card by the builder's one call (the guide's Derived/Test/ToyasCard.lean, 'card_holds'). Laid BY PROGRAM, IN A SANDBOX (cutbox-door.mjs). By AI agents, Wed Nov 11 2026. No macro, syntax, notation, axiom, sorry.
-/
import Derived.Test.YtaeimnechonnmaaGreatDoorRows
import GoSem.ClaimSeven
namespace Go.Proofs.YtaeimnechonnmaaGreatDoor
namespace Rows

/-- THE TIED CARD OF 'linchpinlaw30.JudgeRows'. -/
def judgeRowsCard : Claim7 := { stood := { row := judgeRowsRow, standIns := [], harness := (true, "91c109079a65bda76b7252b65300c66cd86f1bee11ac6cbff4ea8f70948cd2e3"), looks := true }, kinds := [], alts := [], laidByText := true, laidKinds := [.data], laidTests := true, laidLooks := .later }
def JudgeRowsCardSaid : Prop := Claim7.holds Tryz.pinned (.plain (OpenSpec.ofChange judgeRowsSpec)) judgeRowsCard

/-- THE TIED CARD OF 'linchpinlaw30.JudgeProofs'. -/
def judgeProofsCard : Claim7 := { stood := { row := judgeProofsRow, standIns := [], harness := (true, "91c109079a65bda76b7252b65300c66cd86f1bee11ac6cbff4ea8f70948cd2e3"), looks := true }, kinds := [], alts := [], laidByText := true, laidKinds := [.data], laidTests := true, laidLooks := .later }
def JudgeProofsCardSaid : Prop := Claim7.holds Tryz.pinned (.plain (OpenSpec.ofChange judgeProofsSpec)) judgeProofsCard

/-- THE TIED CARD OF 'linchpinlaw30.JudgeSound'. -/
def judgeSoundCard : Claim7 := { stood := { row := judgeSoundRow, standIns := [], harness := (true, "91c109079a65bda76b7252b65300c66cd86f1bee11ac6cbff4ea8f70948cd2e3"), looks := true }, kinds := [], alts := [], laidByText := true, laidKinds := [.data], laidTests := true, laidLooks := .later }
def JudgeSoundCardSaid : Prop := Claim7.holds Tryz.pinned (.plain (OpenSpec.ofChange judgeSoundSpec)) judgeSoundCard

/-- THE TIED CARD OF 'linchpinlaw30.JudgeOther'. -/
def judgeOtherCard : Claim7 := { stood := { row := judgeOtherRow, standIns := [], harness := (true, "91c109079a65bda76b7252b65300c66cd86f1bee11ac6cbff4ea8f70948cd2e3"), looks := true }, kinds := [], alts := [], laidByText := true, laidKinds := [.data], laidTests := true, laidLooks := .later }
def JudgeOtherCardSaid : Prop := Claim7.holds Tryz.pinned (.plain (OpenSpec.ofChange judgeOtherSpec)) judgeOtherCard

/-- THE TIED CARD OF 'linchpinlaw30.JudgeSwaps'. -/
def judgeSwapsCard : Claim7 := { stood := { row := judgeSwapsRow, standIns := [], harness := (true, "91c109079a65bda76b7252b65300c66cd86f1bee11ac6cbff4ea8f70948cd2e3"), looks := true }, kinds := [], alts := [], laidByText := true, laidKinds := [.data], laidTests := true, laidLooks := .later }
def JudgeSwapsCardSaid : Prop := Claim7.holds Tryz.pinned (.plain (OpenSpec.ofChange judgeSwapsSpec)) judgeSwapsCard

/-- THE TIED CARD OF 'linchpinlaw30.JudgeLonger'. -/
def judgeLongerCard : Claim7 := { stood := { row := judgeLongerRow, standIns := [], harness := (true, "91c109079a65bda76b7252b65300c66cd86f1bee11ac6cbff4ea8f70948cd2e3"), looks := true }, kinds := [], alts := [], laidByText := true, laidKinds := [.data], laidTests := true, laidLooks := .later }
def JudgeLongerCardSaid : Prop := Claim7.holds Tryz.pinned (.plain (OpenSpec.ofChange judgeLongerSpec)) judgeLongerCard

/-- THE SECOND FORM's CARD OF 'linchpinlaw30.JudgeRows'. -/
def judgeRowsUptoCard : Claim7 := { stood := { row := judgeRowsUptoRow, standIns := [], harness := (true, "91c109079a65bda76b7252b65300c66cd86f1bee11ac6cbff4ea8f70948cd2e3"), looks := true }, kinds := [], alts := [], laidByText := true, laidKinds := [.data], laidTests := true, laidLooks := .later }
def JudgeRowsUptoCardSaid : Prop := Claim7.holds Tryz.pinned (.plain (OpenSpec.upto judgeRowsSpec)) judgeRowsUptoCard

/-- THE SECOND FORM's CARD OF 'linchpinlaw30.JudgeProofs'. -/
def judgeProofsUptoCard : Claim7 := { stood := { row := judgeProofsUptoRow, standIns := [], harness := (true, "91c109079a65bda76b7252b65300c66cd86f1bee11ac6cbff4ea8f70948cd2e3"), looks := true }, kinds := [], alts := [], laidByText := true, laidKinds := [.data], laidTests := true, laidLooks := .later }
def JudgeProofsUptoCardSaid : Prop := Claim7.holds Tryz.pinned (.plain (OpenSpec.upto judgeProofsSpec)) judgeProofsUptoCard

/-- THE SECOND FORM's CARD OF 'linchpinlaw30.JudgeSound'. -/
def judgeSoundUptoCard : Claim7 := { stood := { row := judgeSoundUptoRow, standIns := [], harness := (true, "91c109079a65bda76b7252b65300c66cd86f1bee11ac6cbff4ea8f70948cd2e3"), looks := true }, kinds := [], alts := [], laidByText := true, laidKinds := [.data], laidTests := true, laidLooks := .later }
def JudgeSoundUptoCardSaid : Prop := Claim7.holds Tryz.pinned (.plain (OpenSpec.upto judgeSoundSpec)) judgeSoundUptoCard

/-- THE SECOND FORM's CARD OF 'linchpinlaw30.JudgeOther'. -/
def judgeOtherUptoCard : Claim7 := { stood := { row := judgeOtherUptoRow, standIns := [], harness := (true, "91c109079a65bda76b7252b65300c66cd86f1bee11ac6cbff4ea8f70948cd2e3"), looks := true }, kinds := [], alts := [], laidByText := true, laidKinds := [.data], laidTests := true, laidLooks := .later }
def JudgeOtherUptoCardSaid : Prop := Claim7.holds Tryz.pinned (.plain (OpenSpec.upto judgeOtherSpec)) judgeOtherUptoCard

/-- THE SECOND FORM's CARD OF 'linchpinlaw30.JudgeSwaps'. -/
def judgeSwapsUptoCard : Claim7 := { stood := { row := judgeSwapsUptoRow, standIns := [], harness := (true, "91c109079a65bda76b7252b65300c66cd86f1bee11ac6cbff4ea8f70948cd2e3"), looks := true }, kinds := [], alts := [], laidByText := true, laidKinds := [.data], laidTests := true, laidLooks := .later }
def JudgeSwapsUptoCardSaid : Prop := Claim7.holds Tryz.pinned (.plain (OpenSpec.upto judgeSwapsSpec)) judgeSwapsUptoCard

/-- THE SECOND FORM's CARD OF 'linchpinlaw30.JudgeLonger'. -/
def judgeLongerUptoCard : Claim7 := { stood := { row := judgeLongerUptoRow, standIns := [], harness := (true, "91c109079a65bda76b7252b65300c66cd86f1bee11ac6cbff4ea8f70948cd2e3"), looks := true }, kinds := [], alts := [], laidByText := true, laidKinds := [.data], laidTests := true, laidLooks := .later }
def JudgeLongerUptoCardSaid : Prop := Claim7.holds Tryz.pinned (.plain (OpenSpec.upto judgeLongerSpec)) judgeLongerUptoCard
end Rows
end Go.Proofs.YtaeimnechonnmaaGreatDoor
