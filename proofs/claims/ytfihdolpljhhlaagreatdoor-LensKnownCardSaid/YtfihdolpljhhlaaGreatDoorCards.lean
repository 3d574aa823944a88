/-
  DERIVED. GIVEN WITH THE SEED: THE CARDS: each row of YtfihdolpljhhlaaGreatDoorRows.lean that lists a variable, with what it lists TIED to the program's text (the seventh form; the later family's looks); each row that meets fmt, with fmt's text TOLD by the authors' own Lean function (tested against real Go, not proved from fmt's source: count such statements apart). THE CARD IS WHAT COUNTS. Prove the row's statement (the work); the ties are given (YtfihdolpljhhlaaGreatDoorTie.lean); close each card by the builder's one call (the guide's Derived/Test/ToyasCard.lean, 'card_holds'). Laid BY PROGRAM, IN A SANDBOX (cutbox-door.mjs). By AI agents, Wed Nov 11 2026. No macro, syntax, notation, axiom, sorry.
-/
import Derived.Test.YtfihdolpljhhlaaGreatDoorRows
import GoSem.ClaimSeven
namespace Go.Proofs.YtfihdolpljhhlaaGreatDoor
namespace Rows

/-- THE TIED CARD OF 'meniscuslaw13.SystemKnown'. -/
def systemKnownCard : Claim7 := { stood := { row := systemKnownRow, standIns := [], harness := (true, "f61ae41cabe8d5695dae519de8c4bc26ab0406c5e3a7c9b75d0cd774a96f441d"), looks := true }, kinds := [], alts := [], laidByText := true, laidKinds := [.data, .data, .data, .data, .sentinel, .sentinel, .data, .pinned], laidTests := true, laidLooks := .later }
def SystemKnownCardSaid : Prop := Claim7.holds Tryz.pinned (.plain (OpenSpec.ofChange systemKnownSpec)) systemKnownCard

/-- THE TIED CARD OF 'meniscuslaw22.ShiftKnown'. -/
def shiftKnownCard : Claim7 := { stood := { row := shiftKnownRow, standIns := [], harness := (true, "f61ae41cabe8d5695dae519de8c4bc26ab0406c5e3a7c9b75d0cd774a96f441d"), looks := true }, kinds := [], alts := [], laidByText := true, laidKinds := [.data, .data, .data, .data, .sentinel, .sentinel, .pinned], laidTests := true, laidLooks := .later }
def ShiftKnownCardSaid : Prop := Claim7.holds Tryz.pinned (.plain (OpenSpec.ofChange shiftKnownSpec)) shiftKnownCard

/-- THE TIED CARD OF 'meniscuslaw12.LensKnown'. -/
def lensKnownCard : Claim7 := { stood := { row := lensKnownRow, standIns := [], harness := (true, "f61ae41cabe8d5695dae519de8c4bc26ab0406c5e3a7c9b75d0cd774a96f441d"), looks := true }, kinds := [], alts := [], laidByText := true, laidKinds := [.data, .data, .data, .data, .sentinel, .sentinel, .data, .pinned], laidTests := true, laidLooks := .later }
def LensKnownCardSaid : Prop := Claim7.holds Tryz.pinned (.plain (OpenSpec.ofChange lensKnownSpec)) lensKnownCard

/-- THE SECOND FORM's CARD OF 'meniscuslaw13.SystemKnown'. -/
def systemKnownUptoCard : Claim7 := { stood := { row := systemKnownUptoRow, standIns := [], harness := (true, "f61ae41cabe8d5695dae519de8c4bc26ab0406c5e3a7c9b75d0cd774a96f441d"), looks := true }, kinds := [], alts := [], laidByText := true, laidKinds := [.data, .data, .data, .data, .sentinel, .sentinel, .data, .pinned], laidTests := true, laidLooks := .later }
def SystemKnownUptoCardSaid : Prop := Claim7.holds Tryz.pinned (.plain (OpenSpec.upto systemKnownSpec)) systemKnownUptoCard

/-- THE SECOND FORM's CARD OF 'meniscuslaw22.ShiftKnown'. -/
def shiftKnownUptoCard : Claim7 := { stood := { row := shiftKnownUptoRow, standIns := [], harness := (true, "f61ae41cabe8d5695dae519de8c4bc26ab0406c5e3a7c9b75d0cd774a96f441d"), looks := true }, kinds := [], alts := [], laidByText := true, laidKinds := [.data, .data, .data, .data, .sentinel, .sentinel, .pinned], laidTests := true, laidLooks := .later }
def ShiftKnownUptoCardSaid : Prop := Claim7.holds Tryz.pinned (.plain (OpenSpec.upto shiftKnownSpec)) shiftKnownUptoCard

/-- THE SECOND FORM's CARD OF 'meniscuslaw12.LensKnown'. -/
def lensKnownUptoCard : Claim7 := { stood := { row := lensKnownUptoRow, standIns := [], harness := (true, "f61ae41cabe8d5695dae519de8c4bc26ab0406c5e3a7c9b75d0cd774a96f441d"), looks := true }, kinds := [], alts := [], laidByText := true, laidKinds := [.data, .data, .data, .data, .sentinel, .sentinel, .data, .pinned], laidTests := true, laidLooks := .later }
def LensKnownUptoCardSaid : Prop := Claim7.holds Tryz.pinned (.plain (OpenSpec.upto lensKnownSpec)) lensKnownUptoCard
end Rows
end Go.Proofs.YtfihdolpljhhlaaGreatDoor
