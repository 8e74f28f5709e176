/-
  DERIVED. GIVEN WITH THE SEED: THE CARDS: each row of YtbpdiikonpbgeaaDoorRows.lean that lists a variable, with what it lists TIED to the program's text (the seventh form; the later family's looks); each row that meets fmt, with fmt's text TOLD by the authors' own Lean function (tested against real Go, not proved from fmt's source: count such statements apart). THE CARD IS WHAT COUNTS. Prove the row's statement (the work); the ties are given (YtbpdiikonpbgeaaDoorTie.lean); close each card by the builder's one call (the guide's Derived/Test/ToyasCard.lean, 'card_holds'). Laid BY PROGRAM, IN A SANDBOX (cutbox-door.mjs). By AI agents, Wed Nov 11 2026. No macro, syntax, notation, axiom, sorry.
-/
import Derived.Test.YtbpdiikonpbgeaaDoorRows
import GoSem.ClaimSeven
namespace Go.Proofs.YtbpdiikonpbgeaaDoor
namespace Rows

/-- THE TIED CARD OF 'linchpinlaw33.LockBack'. -/
def lockBackCard : Claim7 := { stood := { row := lockBackRow, standIns := [], harness := (true, "2167e61ad8a48b4c79226a8ee03947a35e178b3e15f957dd2dc51c2c6dc7a113"), looks := false }, kinds := [], alts := [], laidByText := true, laidKinds := [.data, .data, .data, .data, .pinned], laidTests := true, laidLooks := .later }
def LockBackCardSaid : Prop := Claim7.holds Tryd.pinned (.plain (OpenSpec.ofChange lockBackSpec)) lockBackCard

/-- THE SECOND FORM's CARD OF 'linchpinlaw33.LockBack'. -/
def lockBackUptoCard : Claim7 := { stood := { row := lockBackUptoRow, standIns := [], harness := (true, "2167e61ad8a48b4c79226a8ee03947a35e178b3e15f957dd2dc51c2c6dc7a113"), looks := false }, kinds := [], alts := [], laidByText := true, laidKinds := [.data, .data, .data, .data, .pinned], laidTests := true, laidLooks := .later }
def LockBackUptoCardSaid : Prop := Claim7.holds Tryd.pinned (.plain (OpenSpec.upto lockBackSpec)) lockBackUptoCard
end Rows
end Go.Proofs.YtbpdiikonpbgeaaDoor
