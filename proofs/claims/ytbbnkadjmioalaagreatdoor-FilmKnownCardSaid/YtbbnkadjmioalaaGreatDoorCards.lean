/-
  DERIVED. GIVEN WITH THE SEED: THE CARDS: each row of YtbbnkadjmioalaaGreatDoorRows.lean that lists a variable, with what it lists TIED to the program's text (the seventh form; the later family's looks); each row that meets fmt, with fmt's text TOLD by the authors' own Lean function (tested against real Go, not proved from fmt's source: count such statements apart). THE CARD IS WHAT COUNTS. Prove the row's statement (the work); the ties are given (YtbbnkadjmioalaaGreatDoorTie.lean); close each card by the builder's one call (the guide's Derived/Test/ToyasCard.lean, 'card_holds'). Laid BY PROGRAM, IN A SANDBOX (cutbox-door.mjs). By AI agents, Wed Nov 11 2026. No macro, syntax, notation, axiom, sorry.
-/
import Derived.Test.YtbbnkadjmioalaaGreatDoorRows
import GoSem.ClaimSeven
namespace Go.Proofs.YtbbnkadjmioalaaGreatDoor
namespace Rows

/-- THE TIED CARD OF 'meniscuslaw27.FilmKnown'. -/
def filmKnownCard : Claim7 := { stood := { row := filmKnownRow, standIns := [], harness := (true, "5e09549085f106e73501f5ec2898725123a00a1ef61ab991feab3426cc8ce5ca"), looks := true }, kinds := [], alts := [], laidByText := true, laidKinds := [.data, .data, .data], laidTests := true, laidLooks := .later }
def FilmKnownCardSaid : Prop := Claim7.holds Tryz.pinned (.plain (OpenSpec.ofChange filmKnownSpec)) filmKnownCard

/-- THE TIED CARD OF 'meniscuslaw28.ScriptKnown'. -/
def scriptKnownCard : Claim7 := { stood := { row := scriptKnownRow, standIns := [], harness := (true, "5e09549085f106e73501f5ec2898725123a00a1ef61ab991feab3426cc8ce5ca"), looks := true }, kinds := [], alts := [], laidByText := true, laidKinds := [.data, .data, .data, .data, .sentinel, .sentinel, .data, .pinned], laidTests := true, laidLooks := .later }
def ScriptKnownCardSaid : Prop := Claim7.holds Tryz.pinned (.plain (OpenSpec.ofChange scriptKnownSpec)) scriptKnownCard

/-- THE SECOND FORM's CARD OF 'meniscuslaw27.FilmKnown'. -/
def filmKnownUptoCard : Claim7 := { stood := { row := filmKnownUptoRow, standIns := [], harness := (true, "5e09549085f106e73501f5ec2898725123a00a1ef61ab991feab3426cc8ce5ca"), looks := true }, kinds := [], alts := [], laidByText := true, laidKinds := [.data, .data, .data], laidTests := true, laidLooks := .later }
def FilmKnownUptoCardSaid : Prop := Claim7.holds Tryz.pinned (.plain (OpenSpec.upto filmKnownSpec)) filmKnownUptoCard

/-- THE SECOND FORM's CARD OF 'meniscuslaw28.ScriptKnown'. -/
def scriptKnownUptoCard : Claim7 := { stood := { row := scriptKnownUptoRow, standIns := [], harness := (true, "5e09549085f106e73501f5ec2898725123a00a1ef61ab991feab3426cc8ce5ca"), looks := true }, kinds := [], alts := [], laidByText := true, laidKinds := [.data, .data, .data, .data, .sentinel, .sentinel, .data, .pinned], laidTests := true, laidLooks := .later }
def ScriptKnownUptoCardSaid : Prop := Claim7.holds Tryz.pinned (.plain (OpenSpec.upto scriptKnownSpec)) scriptKnownUptoCard
end Rows
end Go.Proofs.YtbbnkadjmioalaaGreatDoor
