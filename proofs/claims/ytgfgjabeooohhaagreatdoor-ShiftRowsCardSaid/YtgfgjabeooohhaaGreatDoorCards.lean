/-
  DERIVED. GIVEN WITH THE SEED: THE CARDS: each row of YtgfgjabeooohhaaGreatDoorRows.lean that lists a variable, with what it lists TIED to the program's text (the seventh form; the later family's looks); each row that meets fmt, with fmt's text TOLD by the authors' own Lean function (tested against real Go, not proved from fmt's source: count such statements apart). THE CARD IS WHAT COUNTS. Prove the row's statement (the work); the ties are given (YtgfgjabeooohhaaGreatDoorTie.lean); close each card by the builder's one call (the guide's Derived/Test/ToyasCard.lean, 'card_holds'). Laid BY PROGRAM, IN A SANDBOX (cutbox-door.mjs). By AI agents, Wed Nov 11 2026. No macro, syntax, notation, axiom, sorry.
-/
import Derived.Test.YtgfgjabeooohhaaGreatDoorRows
import GoSem.ClaimSeven
namespace Go.Proofs.YtgfgjabeooohhaaGreatDoor
namespace Rows

/-- THE TIED CARD OF 'meniscuslaw12.LensWords'. -/
def lensWordsCard : Claim7 := { stood := { row := lensWordsRow, standIns := [], harness := (true, "7ecf5b4249a2542c86eeb132ef3b0bcf26c96575291aead52760e5c215e5807d"), looks := true }, kinds := [], alts := [], laidByText := true, laidKinds := [.data, .data, .data, .data, .sentinel, .sentinel, .data, .pinned], laidTests := true, laidLooks := .later }
def LensWordsCardSaid : Prop := Claim7.holds Tryz.pinned (.plain (OpenSpec.ofChange lensWordsSpec)) lensWordsCard

/-- THE TIED CARD OF 'meniscuslaw22.ShiftTells'. -/
def shiftTellsCard : Claim7 := { stood := { row := shiftTellsRow, standIns := [], harness := (true, "7ecf5b4249a2542c86eeb132ef3b0bcf26c96575291aead52760e5c215e5807d"), looks := true }, kinds := [], alts := [], laidByText := true, laidKinds := [.data, .data, .data, .data, .sentinel, .sentinel, .pinned], laidTests := true, laidLooks := .later }
def ShiftTellsCardSaid : Prop := Claim7.holds Tryz.pinned (.plain (OpenSpec.ofChange shiftTellsSpec)) shiftTellsCard

/-- THE TIED CARD OF 'meniscuslaw22.ShiftRows'. -/
def shiftRowsCard : Claim7 := { stood := { row := shiftRowsRow, standIns := [], harness := (true, "7ecf5b4249a2542c86eeb132ef3b0bcf26c96575291aead52760e5c215e5807d"), looks := true }, kinds := [], alts := [], laidByText := true, laidKinds := [.data, .data, .data, .data, .sentinel, .sentinel, .pinned], laidTests := true, laidLooks := .later }
def ShiftRowsCardSaid : Prop := Claim7.holds Tryz.pinned (.plain (OpenSpec.ofChange shiftRowsSpec)) shiftRowsCard

/-- THE TIED CARD OF 'meniscuslaw12.LensBack'. -/
def lensBackCard : Claim7 := { stood := { row := lensBackRow, standIns := [], harness := (true, "7ecf5b4249a2542c86eeb132ef3b0bcf26c96575291aead52760e5c215e5807d"), looks := true }, kinds := [], alts := [], laidByText := true, laidKinds := [.data, .data, .data, .data, .sentinel, .sentinel, .data, .pinned], laidTests := true, laidLooks := .later }
def LensBackCardSaid : Prop := Claim7.holds Tryz.pinned (.plain (OpenSpec.ofChange lensBackSpec)) lensBackCard

/-- THE TIED CARD OF 'meniscuslaw13.SystemLess'. -/
def systemLessCard : Claim7 := { stood := { row := systemLessRow, standIns := [], harness := (true, "7ecf5b4249a2542c86eeb132ef3b0bcf26c96575291aead52760e5c215e5807d"), looks := true }, kinds := [], alts := [], laidByText := true, laidKinds := [.data, .data, .data, .data, .sentinel, .sentinel, .data, .pinned], laidTests := true, laidLooks := .later }
def SystemLessCardSaid : Prop := Claim7.holds Tryz.pinned (.plain (OpenSpec.ofChange systemLessSpec)) systemLessCard

/-- THE TIED CARD OF 'meniscuslaw13.SystemStops'. -/
def systemStopsCard : Claim7 := { stood := { row := systemStopsRow, standIns := [], harness := (true, "7ecf5b4249a2542c86eeb132ef3b0bcf26c96575291aead52760e5c215e5807d"), looks := true }, kinds := [], alts := [], laidByText := true, laidKinds := [.data, .data, .data, .data, .sentinel, .sentinel, .data, .pinned], laidTests := true, laidLooks := .later }
def SystemStopsCardSaid : Prop := Claim7.holds Tryz.pinned (.plain (OpenSpec.ofChange systemStopsSpec)) systemStopsCard

/-- THE TIED CARD OF 'meniscuslaw13.SystemTells'. -/
def systemTellsCard : Claim7 := { stood := { row := systemTellsRow, standIns := [], harness := (true, "7ecf5b4249a2542c86eeb132ef3b0bcf26c96575291aead52760e5c215e5807d"), looks := true }, kinds := [], alts := [], laidByText := true, laidKinds := [.data, .data, .data, .data, .sentinel, .sentinel, .data, .pinned], laidTests := true, laidLooks := .later }
def SystemTellsCardSaid : Prop := Claim7.holds Tryz.pinned (.plain (OpenSpec.ofChange systemTellsSpec)) systemTellsCard

/-- THE SECOND FORM's CARD OF 'meniscuslaw12.LensWords'. -/
def lensWordsUptoCard : Claim7 := { stood := { row := lensWordsUptoRow, standIns := [], harness := (true, "7ecf5b4249a2542c86eeb132ef3b0bcf26c96575291aead52760e5c215e5807d"), looks := true }, kinds := [], alts := [], laidByText := true, laidKinds := [.data, .data, .data, .data, .sentinel, .sentinel, .data, .pinned], laidTests := true, laidLooks := .later }
def LensWordsUptoCardSaid : Prop := Claim7.holds Tryz.pinned (.plain (OpenSpec.upto lensWordsSpec)) lensWordsUptoCard

/-- THE SECOND FORM's CARD OF 'meniscuslaw22.ShiftTells'. -/
def shiftTellsUptoCard : Claim7 := { stood := { row := shiftTellsUptoRow, standIns := [], harness := (true, "7ecf5b4249a2542c86eeb132ef3b0bcf26c96575291aead52760e5c215e5807d"), looks := true }, kinds := [], alts := [], laidByText := true, laidKinds := [.data, .data, .data, .data, .sentinel, .sentinel, .pinned], laidTests := true, laidLooks := .later }
def ShiftTellsUptoCardSaid : Prop := Claim7.holds Tryz.pinned (.plain (OpenSpec.upto shiftTellsSpec)) shiftTellsUptoCard

/-- THE SECOND FORM's CARD OF 'meniscuslaw22.ShiftRows'. -/
def shiftRowsUptoCard : Claim7 := { stood := { row := shiftRowsUptoRow, standIns := [], harness := (true, "7ecf5b4249a2542c86eeb132ef3b0bcf26c96575291aead52760e5c215e5807d"), looks := true }, kinds := [], alts := [], laidByText := true, laidKinds := [.data, .data, .data, .data, .sentinel, .sentinel, .pinned], laidTests := true, laidLooks := .later }
def ShiftRowsUptoCardSaid : Prop := Claim7.holds Tryz.pinned (.plain (OpenSpec.upto shiftRowsSpec)) shiftRowsUptoCard

/-- THE SECOND FORM's CARD OF 'meniscuslaw12.LensBack'. -/
def lensBackUptoCard : Claim7 := { stood := { row := lensBackUptoRow, standIns := [], harness := (true, "7ecf5b4249a2542c86eeb132ef3b0bcf26c96575291aead52760e5c215e5807d"), looks := true }, kinds := [], alts := [], laidByText := true, laidKinds := [.data, .data, .data, .data, .sentinel, .sentinel, .data, .pinned], laidTests := true, laidLooks := .later }
def LensBackUptoCardSaid : Prop := Claim7.holds Tryz.pinned (.plain (OpenSpec.upto lensBackSpec)) lensBackUptoCard

/-- THE SECOND FORM's CARD OF 'meniscuslaw13.SystemLess'. -/
def systemLessUptoCard : Claim7 := { stood := { row := systemLessUptoRow, standIns := [], harness := (true, "7ecf5b4249a2542c86eeb132ef3b0bcf26c96575291aead52760e5c215e5807d"), looks := true }, kinds := [], alts := [], laidByText := true, laidKinds := [.data, .data, .data, .data, .sentinel, .sentinel, .data, .pinned], laidTests := true, laidLooks := .later }
def SystemLessUptoCardSaid : Prop := Claim7.holds Tryz.pinned (.plain (OpenSpec.upto systemLessSpec)) systemLessUptoCard

/-- THE SECOND FORM's CARD OF 'meniscuslaw13.SystemStops'. -/
def systemStopsUptoCard : Claim7 := { stood := { row := systemStopsUptoRow, standIns := [], harness := (true, "7ecf5b4249a2542c86eeb132ef3b0bcf26c96575291aead52760e5c215e5807d"), looks := true }, kinds := [], alts := [], laidByText := true, laidKinds := [.data, .data, .data, .data, .sentinel, .sentinel, .data, .pinned], laidTests := true, laidLooks := .later }
def SystemStopsUptoCardSaid : Prop := Claim7.holds Tryz.pinned (.plain (OpenSpec.upto systemStopsSpec)) systemStopsUptoCard

/-- THE SECOND FORM's CARD OF 'meniscuslaw13.SystemTells'. -/
def systemTellsUptoCard : Claim7 := { stood := { row := systemTellsUptoRow, standIns := [], harness := (true, "7ecf5b4249a2542c86eeb132ef3b0bcf26c96575291aead52760e5c215e5807d"), looks := true }, kinds := [], alts := [], laidByText := true, laidKinds := [.data, .data, .data, .data, .sentinel, .sentinel, .data, .pinned], laidTests := true, laidLooks := .later }
def SystemTellsUptoCardSaid : Prop := Claim7.holds Tryz.pinned (.plain (OpenSpec.upto systemTellsSpec)) systemTellsUptoCard
end Rows
end Go.Proofs.YtgfgjabeooohhaaGreatDoor
