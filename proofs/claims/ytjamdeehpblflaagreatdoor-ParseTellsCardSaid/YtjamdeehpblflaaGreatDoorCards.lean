/-
  DERIVED. GIVEN WITH THE SEED: THE CARDS: each row of YtjamdeehpblflaaGreatDoorRows.lean that lists a variable, with what it lists TIED to the program's text (the seventh form; the later family's looks); each row that meets fmt, with fmt's text TOLD by the authors' own Lean function (tested against real Go, not proved from fmt's source: count such statements apart). THE CARD IS WHAT COUNTS. Prove the row's statement (the work); the ties are given (YtjamdeehpblflaaGreatDoorTie.lean); close each card by the builder's one call (the guide's Derived/Test/ToyasCard.lean, 'card_holds'). Laid BY PROGRAM, IN A SANDBOX (cutbox-door.mjs). By AI agents, Wed Nov 11 2026. No macro, syntax, notation, axiom, sorry.
-/
import Derived.Test.YtjamdeehpblflaaGreatDoorRows
import GoSem.ClaimSeven
namespace Go.Proofs.YtjamdeehpblflaaGreatDoor
namespace Rows

/-- THE TIED CARD OF 'parquetrylaw13.ParseNumbers'. -/
def parseNumbersCard : Claim7 := { stood := { row := parseNumbersRow, standIns := [], harness := (true, "8be2f325b4e3f27b98b675485480ae3e0720a2790f61c8199e9123fc96eee919"), looks := true }, kinds := [], alts := [], laidByText := true, laidKinds := [.data, .data, .data, .sentinel, .sentinel], laidTests := true, laidLooks := .later }
def ParseNumbersCardSaid : Prop := Claim7.holds Tryz.pinned (.plain (OpenSpec.ofChange parseNumbersSpec)) parseNumbersCard

/-- THE TIED CARD OF 'parquetrylaw13.ParseTells'. -/
def parseTellsCard : Claim7 := { stood := { row := parseTellsRow, standIns := [], harness := (true, "8be2f325b4e3f27b98b675485480ae3e0720a2790f61c8199e9123fc96eee919"), looks := true }, kinds := [], alts := [], laidByText := true, laidKinds := [.data, .data, .data, .sentinel, .sentinel], laidTests := true, laidLooks := .later }
def ParseTellsCardSaid : Prop := Claim7.holds Tryz.pinned (.plain (OpenSpec.ofChange parseTellsSpec)) parseTellsCard

/-- THE TIED CARD OF 'parquetrylaw13.ParseBack'. -/
def parseBackCard : Claim7 := { stood := { row := parseBackRow, standIns := [], harness := (true, "8be2f325b4e3f27b98b675485480ae3e0720a2790f61c8199e9123fc96eee919"), looks := true }, kinds := [], alts := [], laidByText := true, laidKinds := [.data, .data, .data, .sentinel, .sentinel], laidTests := true, laidLooks := .later }
def ParseBackCardSaid : Prop := Claim7.holds Tryz.pinned (.plain (OpenSpec.ofChange parseBackSpec)) parseBackCard

/-- THE TIED CARD OF 'parquetrylaw13.ParseValues'. -/
def parseValuesCard : Claim7 := { stood := { row := parseValuesRow, standIns := [], harness := (true, "8be2f325b4e3f27b98b675485480ae3e0720a2790f61c8199e9123fc96eee919"), looks := true }, kinds := [], alts := [], laidByText := true, laidKinds := [.data, .data, .data, .sentinel, .sentinel], laidTests := true, laidLooks := .later }
def ParseValuesCardSaid : Prop := Claim7.holds Tryz.pinned (.plain (OpenSpec.ofChange parseValuesSpec)) parseValuesCard

/-- THE SECOND FORM's CARD OF 'parquetrylaw13.ParseNumbers'. -/
def parseNumbersUptoCard : Claim7 := { stood := { row := parseNumbersUptoRow, standIns := [], harness := (true, "8be2f325b4e3f27b98b675485480ae3e0720a2790f61c8199e9123fc96eee919"), looks := true }, kinds := [], alts := [], laidByText := true, laidKinds := [.data, .data, .data, .sentinel, .sentinel], laidTests := true, laidLooks := .later }
def ParseNumbersUptoCardSaid : Prop := Claim7.holds Tryz.pinned (.plain (OpenSpec.upto parseNumbersSpec)) parseNumbersUptoCard

/-- THE SECOND FORM's CARD OF 'parquetrylaw13.ParseTells'. -/
def parseTellsUptoCard : Claim7 := { stood := { row := parseTellsUptoRow, standIns := [], harness := (true, "8be2f325b4e3f27b98b675485480ae3e0720a2790f61c8199e9123fc96eee919"), looks := true }, kinds := [], alts := [], laidByText := true, laidKinds := [.data, .data, .data, .sentinel, .sentinel], laidTests := true, laidLooks := .later }
def ParseTellsUptoCardSaid : Prop := Claim7.holds Tryz.pinned (.plain (OpenSpec.upto parseTellsSpec)) parseTellsUptoCard

/-- THE SECOND FORM's CARD OF 'parquetrylaw13.ParseBack'. -/
def parseBackUptoCard : Claim7 := { stood := { row := parseBackUptoRow, standIns := [], harness := (true, "8be2f325b4e3f27b98b675485480ae3e0720a2790f61c8199e9123fc96eee919"), looks := true }, kinds := [], alts := [], laidByText := true, laidKinds := [.data, .data, .data, .sentinel, .sentinel], laidTests := true, laidLooks := .later }
def ParseBackUptoCardSaid : Prop := Claim7.holds Tryz.pinned (.plain (OpenSpec.upto parseBackSpec)) parseBackUptoCard

/-- THE SECOND FORM's CARD OF 'parquetrylaw13.ParseValues'. -/
def parseValuesUptoCard : Claim7 := { stood := { row := parseValuesUptoRow, standIns := [], harness := (true, "8be2f325b4e3f27b98b675485480ae3e0720a2790f61c8199e9123fc96eee919"), looks := true }, kinds := [], alts := [], laidByText := true, laidKinds := [.data, .data, .data, .sentinel, .sentinel], laidTests := true, laidLooks := .later }
def ParseValuesUptoCardSaid : Prop := Claim7.holds Tryz.pinned (.plain (OpenSpec.upto parseValuesSpec)) parseValuesUptoCard
end Rows
end Go.Proofs.YtjamdeehpblflaaGreatDoor
