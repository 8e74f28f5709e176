/-
  DERIVED. GIVEN WITH THE SEED: THE CARDS: each row of YtdhangmdmdegpaaGreatDoorRows.lean that lists a variable, with what it lists TIED to the program's text (the seventh form; the later family's looks); each row that meets fmt, with fmt's text TOLD by the authors' own Lean function (tested against real Go, not proved from fmt's source: count such statements apart). THE CARD IS WHAT COUNTS. Prove the row's statement (the work); the ties are given (YtdhangmdmdegpaaGreatDoorTie.lean); close each card by the builder's one call (the guide's Derived/Test/ToyasCard.lean, 'card_holds'). Laid BY PROGRAM, IN A SANDBOX (cutbox-door.mjs). By AI agents, Wed Nov 11 2026. No macro, syntax, notation, axiom, sorry.
-/
import Derived.Test.YtdhangmdmdegpaaGreatDoorRows
import GoSem.ClaimSeven
namespace Go.Proofs.YtdhangmdmdegpaaGreatDoor
namespace Rows

/-- THE TIED CARD OF 'linchpinlaw34.FrozenGrown'. -/
def frozenGrownCard : Claim7 := { stood := { row := frozenGrownRow, standIns := [], harness := (true, "7feab3b3ffc5fc1604ffc66f18c53b8f4532b447571523a21e3b93dd850027df"), looks := false }, kinds := [], alts := [], laidByText := true, laidKinds := [.data, .data, .data, .data, .data, .pinned], laidTests := true, laidLooks := .later }
def FrozenGrownCardSaid : Prop := Claim7.holds Tryz.pinned (.plain (OpenSpec.ofChange frozenGrownSpec)) frozenGrownCard

/-- THE SECOND FORM's CARD OF 'linchpinlaw34.FrozenGrown'. -/
def frozenGrownUptoCard : Claim7 := { stood := { row := frozenGrownUptoRow, standIns := [], harness := (true, "7feab3b3ffc5fc1604ffc66f18c53b8f4532b447571523a21e3b93dd850027df"), looks := false }, kinds := [], alts := [], laidByText := true, laidKinds := [.data, .data, .data, .data, .data, .pinned], laidTests := true, laidLooks := .later }
def FrozenGrownUptoCardSaid : Prop := Claim7.holds Tryz.pinned (.plain (OpenSpec.upto frozenGrownSpec)) frozenGrownUptoCard
end Rows
end Go.Proofs.YtdhangmdmdegpaaGreatDoor
