/-
  DERIVED. GIVEN WITH THE SEED: THE CARDS: each row of YtbpdiikonpbgeaaGreatDoorRows.lean that lists a variable, with what it lists TIED to the program's text (the seventh form; the later family's looks); each row that meets fmt, with fmt's text TOLD by the authors' own Lean function (tested against real Go, not proved from fmt's source: count such statements apart). THE CARD IS WHAT COUNTS. Prove the row's statement (the work); the ties are given (YtbpdiikonpbgeaaGreatDoorTie.lean); close each card by the builder's one call (the guide's Derived/Test/ToyasCard.lean, 'card_holds'). Laid BY PROGRAM, IN A SANDBOX (cutbox-door.mjs). By AI agents, Wed Nov 11 2026. No macro, syntax, notation, axiom, sorry.
-/
import Derived.Test.YtbpdiikonpbgeaaGreatDoorRows
import GoSem.ClaimSeven
namespace Go.Proofs.YtbpdiikonpbgeaaGreatDoor
namespace Rows

/-- THE TIED CARD OF 'linchpinlaw33.LockPrints'. -/
def lockPrintsCard : Claim7 := { stood := { row := lockPrintsRow, standIns := [], harness := (true, "5bb1c7cc4c276fd67a18abc988ef716a51469563ebd2c17da0bf2f78536fefc8"), looks := false }, kinds := [], alts := [], laidByText := true, laidKinds := [.data, .data, .data, .data, .pinned], laidTests := true, laidLooks := .later }
def LockPrintsCardSaid : Prop := Claim7.holds Tryz.pinned (.plain (OpenSpec.ofChange lockPrintsSpec)) lockPrintsCard

/-- THE TIED CARD OF 'linchpinlaw33.LockSums'. -/
def lockSumsCard : Claim7 := { stood := { row := lockSumsRow, standIns := [], harness := (true, "5bb1c7cc4c276fd67a18abc988ef716a51469563ebd2c17da0bf2f78536fefc8"), looks := false }, kinds := [], alts := [], laidByText := true, laidKinds := [.data, .data, .data, .data, .pinned], laidTests := true, laidLooks := .later }
def LockSumsCardSaid : Prop := Claim7.holds Tryz.pinned (.plain (OpenSpec.ofChange lockSumsSpec)) lockSumsCard

/-- THE TIED CARD OF 'linchpinlaw33.LockMay'. -/
def lockMayCard : Claim7 := { stood := { row := lockMayRow, standIns := [], harness := (true, "5bb1c7cc4c276fd67a18abc988ef716a51469563ebd2c17da0bf2f78536fefc8"), looks := false }, kinds := [], alts := [], laidByText := true, laidKinds := [.data, .data, .data, .data, .pinned], laidTests := true, laidLooks := .later }
def LockMayCardSaid : Prop := Claim7.holds Tryz.pinned (.plain (OpenSpec.ofChange lockMaySpec)) lockMayCard

/-- THE SECOND FORM's CARD OF 'linchpinlaw33.LockPrints'. -/
def lockPrintsUptoCard : Claim7 := { stood := { row := lockPrintsUptoRow, standIns := [], harness := (true, "5bb1c7cc4c276fd67a18abc988ef716a51469563ebd2c17da0bf2f78536fefc8"), looks := false }, kinds := [], alts := [], laidByText := true, laidKinds := [.data, .data, .data, .data, .pinned], laidTests := true, laidLooks := .later }
def LockPrintsUptoCardSaid : Prop := Claim7.holds Tryz.pinned (.plain (OpenSpec.upto lockPrintsSpec)) lockPrintsUptoCard

/-- THE SECOND FORM's CARD OF 'linchpinlaw33.LockSums'. -/
def lockSumsUptoCard : Claim7 := { stood := { row := lockSumsUptoRow, standIns := [], harness := (true, "5bb1c7cc4c276fd67a18abc988ef716a51469563ebd2c17da0bf2f78536fefc8"), looks := false }, kinds := [], alts := [], laidByText := true, laidKinds := [.data, .data, .data, .data, .pinned], laidTests := true, laidLooks := .later }
def LockSumsUptoCardSaid : Prop := Claim7.holds Tryz.pinned (.plain (OpenSpec.upto lockSumsSpec)) lockSumsUptoCard

/-- THE SECOND FORM's CARD OF 'linchpinlaw33.LockMay'. -/
def lockMayUptoCard : Claim7 := { stood := { row := lockMayUptoRow, standIns := [], harness := (true, "5bb1c7cc4c276fd67a18abc988ef716a51469563ebd2c17da0bf2f78536fefc8"), looks := false }, kinds := [], alts := [], laidByText := true, laidKinds := [.data, .data, .data, .data, .pinned], laidTests := true, laidLooks := .later }
def LockMayUptoCardSaid : Prop := Claim7.holds Tryz.pinned (.plain (OpenSpec.upto lockMaySpec)) lockMayUptoCard
end Rows
end Go.Proofs.YtbpdiikonpbgeaaGreatDoor
