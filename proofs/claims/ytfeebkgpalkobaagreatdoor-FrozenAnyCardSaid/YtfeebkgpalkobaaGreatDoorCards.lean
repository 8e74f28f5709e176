/-
  DERIVED. GIVEN WITH THE SEED: THE CARDS: each row of YtfeebkgpalkobaaGreatDoorRows.lean that lists a variable, with what it lists TIED to the program's text (the seventh form; the later family's looks); each row that meets fmt, with fmt's text TOLD by the authors' own Lean function (tested against real Go, not proved from fmt's source: count such statements apart). THE CARD IS WHAT COUNTS. Prove the row's statement (the work); the ties are given (YtfeebkgpalkobaaGreatDoorTie.lean); close each card by the builder's one call (the guide's Derived/Test/ToyasCard.lean, 'card_holds'). Laid BY PROGRAM, IN A SANDBOX (cutbox-door.mjs). By AI agents, Wed Nov 11 2026. No macro, syntax, notation, axiom, sorry.
-/
import Derived.Test.YtfeebkgpalkobaaGreatDoorRows
import GoSem.ClaimSeven
namespace Go.Proofs.YtfeebkgpalkobaaGreatDoor
namespace Rows

/-- THE TIED CARD OF 'linchpinlaw34.FrozenAny'. -/
def frozenAnyCard : Claim7 := { stood := { row := frozenAnyRow, standIns := [], harness := (true, "9980ae017b5065af7c33c3b30c273fb5035009d295aa95ea5e788b5861f74b85"), looks := false }, kinds := [], alts := [], laidByText := true, laidKinds := [.data, .data, .data, .data, .data, .pinned], laidTests := true, laidLooks := .later }
def FrozenAnyCardSaid : Prop := Claim7.holds Tryz.pinned (.plain (OpenSpec.ofChange frozenAnySpec)) frozenAnyCard

/-- THE SECOND FORM's CARD OF 'linchpinlaw34.FrozenAny'. -/
def frozenAnyUptoCard : Claim7 := { stood := { row := frozenAnyUptoRow, standIns := [], harness := (true, "9980ae017b5065af7c33c3b30c273fb5035009d295aa95ea5e788b5861f74b85"), looks := false }, kinds := [], alts := [], laidByText := true, laidKinds := [.data, .data, .data, .data, .data, .pinned], laidTests := true, laidLooks := .later }
def FrozenAnyUptoCardSaid : Prop := Claim7.holds Tryz.pinned (.plain (OpenSpec.upto frozenAnySpec)) frozenAnyUptoCard
end Rows
end Go.Proofs.YtfeebkgpalkobaaGreatDoor
