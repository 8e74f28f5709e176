/-
  DERIVED. GIVEN WITH THE SEED: THE CARDS: each row of YtkmlboofmolbaaaGreatDoorRows.lean that lists a variable, with what it lists TIED to the program's text (the seventh form; the later family's looks); each row that meets fmt, with fmt's text TOLD by the authors' own Lean function (tested against real Go, not proved from fmt's source: count such statements apart). THE CARD IS WHAT COUNTS. Prove the row's statement (the work); the ties are given (YtkmlboofmolbaaaGreatDoorTie.lean); close each card by the builder's one call (the guide's Derived/Test/ToyasCard.lean, 'card_holds'). Laid BY PROGRAM, IN A SANDBOX (cutbox-door.mjs). By AI agents, Wed Nov 11 2026. No macro, syntax, notation, axiom, sorry.
-/
import Derived.Test.YtkmlboofmolbaaaGreatDoorRows
import GoSem.ClaimSeven
namespace Go.Proofs.YtkmlboofmolbaaaGreatDoor
namespace Rows

/-- THE TIED CARD OF 'linchpinlaw34.FrozenBack'. -/
def frozenBackCard : Claim7 := { stood := { row := frozenBackRow, standIns := [], harness := (true, "98911fddafdb087566ae44253865c560d181ec984a57b4fff8f66a86353af673"), looks := false }, kinds := [], alts := [], laidByText := true, laidKinds := [.data, .data, .data, .data, .data, .pinned], laidTests := true, laidLooks := .later }
def FrozenBackCardSaid : Prop := Claim7.holds Tryz.pinned (.plain (OpenSpec.ofChange frozenBackSpec)) frozenBackCard

/-- THE TIED CARD OF 'linchpinlaw34.FrozenStale'. -/
def frozenStaleCard : Claim7 := { stood := { row := frozenStaleRow, standIns := [], harness := (true, "98911fddafdb087566ae44253865c560d181ec984a57b4fff8f66a86353af673"), looks := false }, kinds := [], alts := [], laidByText := true, laidKinds := [.data, .data, .data, .data, .data, .pinned], laidTests := true, laidLooks := .later }
def FrozenStaleCardSaid : Prop := Claim7.holds Tryz.pinned (.plain (OpenSpec.ofChange frozenStaleSpec)) frozenStaleCard

/-- THE TIED CARD OF 'linchpinlaw34.FrozenOther'. -/
def frozenOtherCard : Claim7 := { stood := { row := frozenOtherRow, standIns := [], harness := (true, "98911fddafdb087566ae44253865c560d181ec984a57b4fff8f66a86353af673"), looks := false }, kinds := [], alts := [], laidByText := true, laidKinds := [.data, .data, .data, .data, .data, .pinned], laidTests := true, laidLooks := .later }
def FrozenOtherCardSaid : Prop := Claim7.holds Tryz.pinned (.plain (OpenSpec.ofChange frozenOtherSpec)) frozenOtherCard

/-- THE SECOND FORM's CARD OF 'linchpinlaw34.FrozenBack'. -/
def frozenBackUptoCard : Claim7 := { stood := { row := frozenBackUptoRow, standIns := [], harness := (true, "98911fddafdb087566ae44253865c560d181ec984a57b4fff8f66a86353af673"), looks := false }, kinds := [], alts := [], laidByText := true, laidKinds := [.data, .data, .data, .data, .data, .pinned], laidTests := true, laidLooks := .later }
def FrozenBackUptoCardSaid : Prop := Claim7.holds Tryz.pinned (.plain (OpenSpec.upto frozenBackSpec)) frozenBackUptoCard

/-- THE SECOND FORM's CARD OF 'linchpinlaw34.FrozenStale'. -/
def frozenStaleUptoCard : Claim7 := { stood := { row := frozenStaleUptoRow, standIns := [], harness := (true, "98911fddafdb087566ae44253865c560d181ec984a57b4fff8f66a86353af673"), looks := false }, kinds := [], alts := [], laidByText := true, laidKinds := [.data, .data, .data, .data, .data, .pinned], laidTests := true, laidLooks := .later }
def FrozenStaleUptoCardSaid : Prop := Claim7.holds Tryz.pinned (.plain (OpenSpec.upto frozenStaleSpec)) frozenStaleUptoCard

/-- THE SECOND FORM's CARD OF 'linchpinlaw34.FrozenOther'. -/
def frozenOtherUptoCard : Claim7 := { stood := { row := frozenOtherUptoRow, standIns := [], harness := (true, "98911fddafdb087566ae44253865c560d181ec984a57b4fff8f66a86353af673"), looks := false }, kinds := [], alts := [], laidByText := true, laidKinds := [.data, .data, .data, .data, .data, .pinned], laidTests := true, laidLooks := .later }
def FrozenOtherUptoCardSaid : Prop := Claim7.holds Tryz.pinned (.plain (OpenSpec.upto frozenOtherSpec)) frozenOtherUptoCard
end Rows
end Go.Proofs.YtkmlboofmolbaaaGreatDoor
