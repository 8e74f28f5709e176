/-
  DERIVED. GIVEN WITH THE SEED: THE CARDS: each row of YtgdpmljblomcfaaGreatDoorRows.lean that lists a variable, with what it lists TIED to the program's text (the seventh form; the later family's looks); each row that meets fmt, with fmt's text TOLD by the authors' own Lean function (tested against real Go, not proved from fmt's source: count such statements apart). THE CARD IS WHAT COUNTS. Prove the row's statement (the work); the ties are given (YtgdpmljblomcfaaGreatDoorTie.lean); close each card by the builder's one call (the guide's Derived/Test/ToyasCard.lean, 'card_holds'). Laid BY PROGRAM, IN A SANDBOX (cutbox-door.mjs). By AI agents, Wed Nov 11 2026. No macro, syntax, notation, axiom, sorry.
-/
import Derived.Test.YtgdpmljblomcfaaGreatDoorRows
import GoSem.ClaimSeven
namespace Go.Proofs.YtgdpmljblomcfaaGreatDoor
namespace Rows

/-- THE TIED CARD OF 'linchpinlaw34.FrozenTells'. -/
def frozenTellsCard : Claim7 := { stood := { row := frozenTellsRow, standIns := [], harness := (true, "9dcad18c9836e8631851f57859300a109110615fb0a619dc1bc8e7cb4abb03cd"), looks := false }, kinds := [], alts := [], laidByText := true, laidKinds := [.data, .data, .data, .data, .data, .pinned], laidTests := true, laidLooks := .later }
def FrozenTellsCardSaid : Prop := Claim7.holds Tryz.pinned (.plain (OpenSpec.ofChange frozenTellsSpec)) frozenTellsCard

/-- THE SECOND FORM's CARD OF 'linchpinlaw34.FrozenTells'. -/
def frozenTellsUptoCard : Claim7 := { stood := { row := frozenTellsUptoRow, standIns := [], harness := (true, "9dcad18c9836e8631851f57859300a109110615fb0a619dc1bc8e7cb4abb03cd"), looks := false }, kinds := [], alts := [], laidByText := true, laidKinds := [.data, .data, .data, .data, .data, .pinned], laidTests := true, laidLooks := .later }
def FrozenTellsUptoCardSaid : Prop := Claim7.holds Tryz.pinned (.plain (OpenSpec.upto frozenTellsSpec)) frozenTellsUptoCard
end Rows
end Go.Proofs.YtgdpmljblomcfaaGreatDoor
