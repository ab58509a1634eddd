/-
  DERIVED. GIVEN WITH THE SEED: THE CARDS: each row of YtflciaomdlgjpaaGreatDoorRows.lean that lists a variable, with what it lists TIED to the program's text (the seventh form; the later family's looks); each row that meets fmt, with fmt's text TOLD by the authors' own Lean function (tested against real Go, not proved from fmt's source: count such statements apart). THE CARD IS WHAT COUNTS. Prove the row's statement (the work); the ties are given (YtflciaomdlgjpaaGreatDoorTie.lean); close each card by the builder's one call (the guide's Derived/Test/ToyasCard.lean, 'card_holds'). Laid BY PROGRAM, IN A SANDBOX (cutbox-door.mjs). By AI agents, Wed Nov 11 2026. No macro, syntax, notation, axiom, sorry.
-/
import Derived.Test.YtflciaomdlgjpaaGreatDoorRows
import GoSem.ClaimSeven
namespace Go.Proofs.YtflciaomdlgjpaaGreatDoor
namespace Rows

/-- THE TIED CARD OF 'libevolutionlaw28.ObjectNumbers'. -/
def objectNumbersCard : Claim7 := { stood := { row := objectNumbersRow, standIns := [], harness := (true, "f09e971645ec60e969a88859e4ccf16d7e604fa6336ed880d907e4dad58afc9c"), looks := true }, kinds := [], alts := [], laidByText := true, laidKinds := [.data, .data, .data, .data, .sentinel, .sentinel, .pinned], laidTests := true, laidLooks := .later }
def ObjectNumbersCardSaid : Prop := Claim7.holds Tryz.pinned (.plain (OpenSpec.ofChange objectNumbersSpec)) objectNumbersCard

/-- THE SECOND FORM's CARD OF 'libevolutionlaw28.ObjectNumbers'. -/
def objectNumbersUptoCard : Claim7 := { stood := { row := objectNumbersUptoRow, standIns := [], harness := (true, "f09e971645ec60e969a88859e4ccf16d7e604fa6336ed880d907e4dad58afc9c"), looks := true }, kinds := [], alts := [], laidByText := true, laidKinds := [.data, .data, .data, .data, .sentinel, .sentinel, .pinned], laidTests := true, laidLooks := .later }
def ObjectNumbersUptoCardSaid : Prop := Claim7.holds Tryz.pinned (.plain (OpenSpec.upto objectNumbersSpec)) objectNumbersUptoCard
end Rows
end Go.Proofs.YtflciaomdlgjpaaGreatDoor
