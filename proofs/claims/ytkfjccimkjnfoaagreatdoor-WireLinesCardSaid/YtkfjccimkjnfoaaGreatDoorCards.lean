/-
  DERIVED. GIVEN WITH THE SEED: THE CARDS: each row of YtkfjccimkjnfoaaGreatDoorRows.lean that lists a variable, with what it lists TIED to the program's text (the seventh form; the later family's looks); each row that meets fmt, with fmt's text TOLD by the authors' own Lean function (tested against real Go, not proved from fmt's source: count such statements apart). THE CARD IS WHAT COUNTS. Prove the row's statement (the work); the ties are given (YtkfjccimkjnfoaaGreatDoorTie.lean); close each card by the builder's one call (the guide's Derived/Test/ToyasCard.lean, 'card_holds'). Laid BY PROGRAM, IN A SANDBOX (cutbox-door.mjs). By AI agents, Wed Nov 11 2026. No macro, syntax, notation, axiom, sorry.
-/
import Derived.Test.YtkfjccimkjnfoaaGreatDoorRows
import GoSem.ClaimSeven
namespace Go.Proofs.YtkfjccimkjnfoaaGreatDoor
namespace Rows

/-- THE TIED CARD OF 'parquetrylaw12.WireNumbers'. -/
def wireNumbersCard : Claim7 := { stood := { row := wireNumbersRow, standIns := [], harness := (true, "7d55b6621455980855dde200d8d15a80ceb00127cbaad64451cb771638cd1477"), looks := false }, kinds := [], alts := [], laidByText := true, laidKinds := [.data, .data, .data], laidTests := true, laidLooks := .later }
def WireNumbersCardSaid : Prop := Claim7.holds Tryz.pinned (.plain (OpenSpec.ofChange wireNumbersSpec)) wireNumbersCard

/-- THE TIED CARD OF 'parquetrylaw12.WireLines'. -/
def wireLinesCard : Claim7 := { stood := { row := wireLinesRow, standIns := [], harness := (true, "7d55b6621455980855dde200d8d15a80ceb00127cbaad64451cb771638cd1477"), looks := false }, kinds := [], alts := [], laidByText := true, laidKinds := [.data, .data, .data], laidTests := true, laidLooks := .later }
def WireLinesCardSaid : Prop := Claim7.holds Tryz.pinned (.plain (OpenSpec.ofChange wireLinesSpec)) wireLinesCard

/-- THE SECOND FORM's CARD OF 'parquetrylaw12.WireNumbers'. -/
def wireNumbersUptoCard : Claim7 := { stood := { row := wireNumbersUptoRow, standIns := [], harness := (true, "7d55b6621455980855dde200d8d15a80ceb00127cbaad64451cb771638cd1477"), looks := false }, kinds := [], alts := [], laidByText := true, laidKinds := [.data, .data, .data], laidTests := true, laidLooks := .later }
def WireNumbersUptoCardSaid : Prop := Claim7.holds Tryz.pinned (.plain (OpenSpec.upto wireNumbersSpec)) wireNumbersUptoCard

/-- THE SECOND FORM's CARD OF 'parquetrylaw12.WireLines'. -/
def wireLinesUptoCard : Claim7 := { stood := { row := wireLinesUptoRow, standIns := [], harness := (true, "7d55b6621455980855dde200d8d15a80ceb00127cbaad64451cb771638cd1477"), looks := false }, kinds := [], alts := [], laidByText := true, laidKinds := [.data, .data, .data], laidTests := true, laidLooks := .later }
def WireLinesUptoCardSaid : Prop := Claim7.holds Tryz.pinned (.plain (OpenSpec.upto wireLinesSpec)) wireLinesUptoCard
end Rows
end Go.Proofs.YtkfjccimkjnfoaaGreatDoor
