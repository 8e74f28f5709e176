/-
  DERIVED. GIVEN WITH THE SEED: THE CARDS: each row of YtkllcniplomebaaGreatDoorRows.lean that lists a variable, with what it lists TIED to the program's text (the seventh form; the later family's looks); each row that meets fmt, with fmt's text TOLD by the authors' own Lean function (tested against real Go, not proved from fmt's source: count such statements apart). THE CARD IS WHAT COUNTS. Prove the row's statement (the work); the ties are given (YtkllcniplomebaaGreatDoorTie.lean); close each card by the builder's one call (the guide's Derived/Test/ToyasCard.lean, 'card_holds'). Laid BY PROGRAM, IN A SANDBOX (cutbox-door.mjs). By AI agents, Wed Nov 11 2026. No macro, syntax, notation, axiom, sorry.
-/
import Derived.Test.YtkllcniplomebaaGreatDoorRows
import GoSem.ClaimSeven
namespace Go.Proofs.YtkllcniplomebaaGreatDoor
namespace Rows

/-- THE TIED CARD OF 'linchpinlaw33.LockWhole'. -/
def lockWholeCard : Claim7 := { stood := { row := lockWholeRow, standIns := [], harness := (true, "f74a3d704d1eac040d0a96c54a9b709656beb5fa056062ee96985adc638df4fa"), looks := false }, kinds := [], alts := [], laidByText := true, laidKinds := [.data, .data, .data, .data, .data, .pinned], laidTests := true, laidLooks := .later }
def LockWholeCardSaid : Prop := Claim7.holds Tryz.pinned (.plain (OpenSpec.ofChange lockWholeSpec)) lockWholeCard

/-- THE SECOND FORM's CARD OF 'linchpinlaw33.LockWhole'. -/
def lockWholeUptoCard : Claim7 := { stood := { row := lockWholeUptoRow, standIns := [], harness := (true, "f74a3d704d1eac040d0a96c54a9b709656beb5fa056062ee96985adc638df4fa"), looks := false }, kinds := [], alts := [], laidByText := true, laidKinds := [.data, .data, .data, .data, .data, .pinned], laidTests := true, laidLooks := .later }
def LockWholeUptoCardSaid : Prop := Claim7.holds Tryz.pinned (.plain (OpenSpec.upto lockWholeSpec)) lockWholeUptoCard
end Rows
end Go.Proofs.YtkllcniplomebaaGreatDoor
