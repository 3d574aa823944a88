/-
  DERIVED. GIVEN WITH THE SEED: THE CARDS: each row of YtfeldacghdcghaaGreatDoorRows.lean that lists a variable, with what it lists TIED to the program's text (the seventh form; the later family's looks); each row that meets fmt, with fmt's text TOLD by the authors' own Lean function (tested against real Go, not proved from fmt's source: count such statements apart). THE CARD IS WHAT COUNTS. Prove the row's statement (the work); the ties are given (YtfeldacghdcghaaGreatDoorTie.lean); close each card by the builder's one call (the guide's Derived/Test/ToyasCard.lean, 'card_holds'). Laid BY PROGRAM, IN A SANDBOX (cutbox-door.mjs). By AI agents, Wed Nov 11 2026. No macro, syntax, notation, axiom, sorry.
-/
import Derived.Test.YtfeldacghdcghaaGreatDoorRows
import GoSem.ClaimSeven
namespace Go.Proofs.YtfeldacghdcghaaGreatDoor
namespace Rows

/-- THE TIED CARD OF 'meniscuslaw27.FilmSums'. -/
def filmSumsCard : Claim7 := { stood := { row := filmSumsRow, standIns := [], harness := (true, "d30336a686cb8f3cdd3544b5f04499e95318c80417d7f926726ea227a00f7ff0"), looks := false }, kinds := [], alts := [], laidByText := true, laidKinds := [.data, .data, .data], laidTests := true, laidLooks := .later }
def FilmSumsCardSaid : Prop := Claim7.holds Tryz.pinned (.plain (OpenSpec.ofChange filmSumsSpec)) filmSumsCard

/-- THE TIED CARD OF 'meniscuslaw27.FilmText'. -/
def filmTextCard : Claim7 := { stood := { row := filmTextRow, standIns := [], harness := (true, "d30336a686cb8f3cdd3544b5f04499e95318c80417d7f926726ea227a00f7ff0"), looks := false }, kinds := [], alts := [], laidByText := true, laidKinds := [.data, .data, .data], laidTests := true, laidLooks := .later }
def FilmTextCardSaid : Prop := Claim7.holds Tryz.pinned (.plain (OpenSpec.ofChange filmTextSpec)) filmTextCard

/-- THE TIED CARD OF 'meniscuslaw27.FilmTurns'. -/
def filmTurnsCard : Claim7 := { stood := { row := filmTurnsRow, standIns := [], harness := (true, "d30336a686cb8f3cdd3544b5f04499e95318c80417d7f926726ea227a00f7ff0"), looks := false }, kinds := [], alts := [], laidByText := true, laidKinds := [.data, .data, .data], laidTests := true, laidLooks := .later }
def FilmTurnsCardSaid : Prop := Claim7.holds Tryz.pinned (.plain (OpenSpec.ofChange filmTurnsSpec)) filmTurnsCard

/-- THE TIED CARD OF 'meniscuslaw27.FilmTells'. -/
def filmTellsCard : Claim7 := { stood := { row := filmTellsRow, standIns := [], harness := (true, "d30336a686cb8f3cdd3544b5f04499e95318c80417d7f926726ea227a00f7ff0"), looks := false }, kinds := [], alts := [], laidByText := true, laidKinds := [.data, .data, .data], laidTests := true, laidLooks := .later }
def FilmTellsCardSaid : Prop := Claim7.holds Tryz.pinned (.plain (OpenSpec.ofChange filmTellsSpec)) filmTellsCard

/-- THE SECOND FORM's CARD OF 'meniscuslaw27.FilmSums'. -/
def filmSumsUptoCard : Claim7 := { stood := { row := filmSumsUptoRow, standIns := [], harness := (true, "d30336a686cb8f3cdd3544b5f04499e95318c80417d7f926726ea227a00f7ff0"), looks := false }, kinds := [], alts := [], laidByText := true, laidKinds := [.data, .data, .data], laidTests := true, laidLooks := .later }
def FilmSumsUptoCardSaid : Prop := Claim7.holds Tryz.pinned (.plain (OpenSpec.upto filmSumsSpec)) filmSumsUptoCard

/-- THE SECOND FORM's CARD OF 'meniscuslaw27.FilmText'. -/
def filmTextUptoCard : Claim7 := { stood := { row := filmTextUptoRow, standIns := [], harness := (true, "d30336a686cb8f3cdd3544b5f04499e95318c80417d7f926726ea227a00f7ff0"), looks := false }, kinds := [], alts := [], laidByText := true, laidKinds := [.data, .data, .data], laidTests := true, laidLooks := .later }
def FilmTextUptoCardSaid : Prop := Claim7.holds Tryz.pinned (.plain (OpenSpec.upto filmTextSpec)) filmTextUptoCard

/-- THE SECOND FORM's CARD OF 'meniscuslaw27.FilmTurns'. -/
def filmTurnsUptoCard : Claim7 := { stood := { row := filmTurnsUptoRow, standIns := [], harness := (true, "d30336a686cb8f3cdd3544b5f04499e95318c80417d7f926726ea227a00f7ff0"), looks := false }, kinds := [], alts := [], laidByText := true, laidKinds := [.data, .data, .data], laidTests := true, laidLooks := .later }
def FilmTurnsUptoCardSaid : Prop := Claim7.holds Tryz.pinned (.plain (OpenSpec.upto filmTurnsSpec)) filmTurnsUptoCard

/-- THE SECOND FORM's CARD OF 'meniscuslaw27.FilmTells'. -/
def filmTellsUptoCard : Claim7 := { stood := { row := filmTellsUptoRow, standIns := [], harness := (true, "d30336a686cb8f3cdd3544b5f04499e95318c80417d7f926726ea227a00f7ff0"), looks := false }, kinds := [], alts := [], laidByText := true, laidKinds := [.data, .data, .data], laidTests := true, laidLooks := .later }
def FilmTellsUptoCardSaid : Prop := Claim7.holds Tryz.pinned (.plain (OpenSpec.upto filmTellsSpec)) filmTellsUptoCard
end Rows
end Go.Proofs.YtfeldacghdcghaaGreatDoor
