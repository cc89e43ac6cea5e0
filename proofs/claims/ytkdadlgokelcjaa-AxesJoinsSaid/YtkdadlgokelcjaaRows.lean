/-
  No cell of these rows narrows 'for every input' (looked for: loops, veiled, ifaces, maps, wideKeys, modest, calm, conditions, laid).
  DERIVED. THE GIVEN ROWS OF THIS SEAT. 4 by the template 'for every input the law returns true; each argument reads behind the call as it read before'; 0 by the template 'total and deterministic' (their statements: YtkdadlgokelcjaaTotals.lean).
  GIVEN WITH THE SEED: the statements are not yours to turn. If you find one false, say at which input.
  Laid BY PROGRAM, IN A SANDBOX (cutbox-rows.mjs): the forced cells as the released guide's own fill.sh prints them over the translation 5b04a5abbb0cda37… (all of the seat's roots in one cut). By AI agents, Wed Nov 11 2026. No macro, syntax, notation, axiom, sorry.
-/
import Derived.Test.YtkdadlgokelcjaaChecked
import GoSem.Claim
import GoSem.ClaimJoined
import GoSem.ClaimMapViews
import Derived.JoinedTies
import Derived.KernelRfl
namespace Go.Proofs.Ytkdadlgokelcjaa
/- THE CELL 'sum', in the pinned program and in every row, IS THE sha256 OF THE DUMP (.gsa) THAT YtkdadlgokelcjaaProg.lean LOADS. Nothing in Lean hashes anything: it is a label: what it is worth is what the hold of that sum in a sandbox is worth. -/
noncomputable def Try.pinned : Pinned := { name := "ytkdadlgokelcjaa", sum := "5b04a5abbb0cda37bd65caa383371f008d2b4722870525a77d7a8c4ec795d538", checked := Try.checked }
namespace Rows
def none {H : Type} : Left H := { results := [], args := [] }

/-- 'parquetrylaw5.AxesJoins': WHATEVER THE INPUT: true; the input reads as it did. -/
def axesJoinsSpec : ChangeSpec := { name := "axesJoins", fn := fun _ => fun
  | [d1, d2] => { results := [.lit (.bool true)], args := [d1, d2] }
  | _ => none }
def axesJoinsRow : OpenClaim := { program := "ytkdadlgokelcjaa", sum := "5b04a5abbb0cda37bd65caa383371f008d2b4722870525a77d7a8c4ec795d538", func := "parquetry/parquetrylaw5.AxesJoins", spec := "axesJoins", unfollowed := true, recurses := true, apart := false }
def AxesJoinsSaid : Prop := axesJoinsRow.holds Try.pinned (OpenSpec.ofChange axesJoinsSpec)

/-- ITS FALSE NEIGHBOUR: 'it returns false'. Refute it at one input. -/
def axesJoinsWrong : ChangeSpec := { name := "axesJoins", fn := fun _ => fun
  | [d1, d2] => { results := [.lit (.bool false)], args := [d1, d2] }
  | _ => none }
def AxesJoinsWrongFalsely : Prop := axesJoinsRow.holds Try.pinned (OpenSpec.ofChange axesJoinsWrong)

/-- 'parquetrylaw5.AxesBack': WHATEVER THE INPUT: true; the input reads as it did. -/
def axesBackSpec : ChangeSpec := { name := "axesBack", fn := fun _ => fun
  | [d1, d2] => { results := [.lit (.bool true)], args := [d1, d2] }
  | _ => none }
def axesBackRow : OpenClaim := { program := "ytkdadlgokelcjaa", sum := "5b04a5abbb0cda37bd65caa383371f008d2b4722870525a77d7a8c4ec795d538", func := "parquetry/parquetrylaw5.AxesBack", spec := "axesBack", unfollowed := true, recurses := true, apart := false }
def AxesBackSaid : Prop := axesBackRow.holds Try.pinned (OpenSpec.ofChange axesBackSpec)

/-- ITS FALSE NEIGHBOUR: 'it returns false'. Refute it at one input. -/
def axesBackWrong : ChangeSpec := { name := "axesBack", fn := fun _ => fun
  | [d1, d2] => { results := [.lit (.bool false)], args := [d1, d2] }
  | _ => none }
def AxesBackWrongFalsely : Prop := axesBackRow.holds Try.pinned (OpenSpec.ofChange axesBackWrong)

/-- 'parquetrylaw5.AxesSpread': WHATEVER THE INPUT: true; the input reads as it did. -/
def axesSpreadSpec : ChangeSpec := { name := "axesSpread", fn := fun _ => fun
  | [d1, d2, d3] => { results := [.lit (.bool true)], args := [d1, d2, d3] }
  | _ => none }
def axesSpreadRow : OpenClaim := { program := "ytkdadlgokelcjaa", sum := "5b04a5abbb0cda37bd65caa383371f008d2b4722870525a77d7a8c4ec795d538", func := "parquetry/parquetrylaw5.AxesSpread", spec := "axesSpread", unfollowed := true, recurses := true, apart := false }
def AxesSpreadSaid : Prop := axesSpreadRow.holds Try.pinned (OpenSpec.ofChange axesSpreadSpec)

/-- ITS FALSE NEIGHBOUR: 'it returns false'. Refute it at one input. -/
def axesSpreadWrong : ChangeSpec := { name := "axesSpread", fn := fun _ => fun
  | [d1, d2, d3] => { results := [.lit (.bool false)], args := [d1, d2, d3] }
  | _ => none }
def AxesSpreadWrongFalsely : Prop := axesSpreadRow.holds Try.pinned (OpenSpec.ofChange axesSpreadWrong)

/-- 'parquetrylaw5.AxesTells': WHATEVER THE INPUT: true; the input reads as it did. -/
def axesTellsSpec : ChangeSpec := { name := "axesTells", fn := fun _ => fun
  | [d1, d2, d3, d4, d5, d6] => { results := [.lit (.bool true)], args := [d1, d2, d3, d4, d5, d6] }
  | _ => none }
def axesTellsRow : OpenClaim := { program := "ytkdadlgokelcjaa", sum := "5b04a5abbb0cda37bd65caa383371f008d2b4722870525a77d7a8c4ec795d538", func := "parquetry/parquetrylaw5.AxesTells", spec := "axesTells", unfollowed := true, recurses := true, apart := false }
def AxesTellsSaid : Prop := axesTellsRow.holds Try.pinned (OpenSpec.ofChange axesTellsSpec)

/-- ITS FALSE NEIGHBOUR: 'it returns false'. Refute it at one input. -/
def axesTellsWrong : ChangeSpec := { name := "axesTells", fn := fun _ => fun
  | [d1, d2, d3, d4, d5, d6] => { results := [.lit (.bool false)], args := [d1, d2, d3, d4, d5, d6] }
  | _ => none }
def AxesTellsWrongFalsely : Prop := axesTellsRow.holds Try.pinned (OpenSpec.ofChange axesTellsWrong)

/- THE SECOND FORM. 'bulk': how many values and letters a reading holds, each counted each time it is reached (what is shared counts as often as it is met; a slice's spare places count too). A statement '..UptoSaid' is the law's where the arguments, and the package variables that the reading takes, are together of bulk at most 1048576: NARROWER than '..Said'. Prove '..Said' where nothing that the law and all that it calls make is longer than what came in: it says more and counts as full. Else prove '..UptoSaid'. A law counts once. -/
mutual
def uptoBulk {H : Type} : DataW H → Nat
  | .lit (.string bytes) => bytes.length + 1
  | .lit _ => 1
  | .nil => 1
  | .ptr d => uptoBulk d + 1
  | .slice elems spare => uptoBulkAll elems + uptoBulkAll spare + 1
  | .agg parts => uptoBulkAll parts + 1
  | .iface _ d => uptoBulk d + 1
  | .map entries => uptoBulkEntries entries + 1
  | .held _ => 1
def uptoBulkAll {H : Type} : List (DataW H) → Nat
  | [] => 0
  | d :: r => uptoBulk d + uptoBulkAll r
def uptoBulkEntries {H : Type} : List (Lit × DataW H) → Nat
  | [] => 0
  | x :: r => uptoBulkEntry x + uptoBulkEntries r
def uptoBulkEntry {H : Type} : Lit × DataW H → Nat
  | (.string bytes, d) => bytes.length + uptoBulk d + 1
  | (_, d) => uptoBulk d + 1
 end
def uptoSmall : (H : Type) → List (DataW H) → Bool := fun _ ds => decide (uptoBulkAll ds ≤ 1048576)
def OpenSpec.upto (s : _root_.Go.ChangeSpec) : _root_.Go.OpenSpec := { _root_.Go.OpenSpec.ofChange s with cond := some uptoSmall }

/-- 'parquetrylaw5.AxesJoins', WHERE WHAT IT READS IS OF BULK AT MOST 1048576: true; the input reads as it did. -/
def axesJoinsUptoRow : OpenClaim := { program := "ytkdadlgokelcjaa", sum := "5b04a5abbb0cda37bd65caa383371f008d2b4722870525a77d7a8c4ec795d538", func := "parquetry/parquetrylaw5.AxesJoins", spec := "axesJoins", unfollowed := true, recurses := true, apart := false, narrowed := true }
def AxesJoinsUptoSaid : Prop := axesJoinsUptoRow.holds Try.pinned (OpenSpec.upto axesJoinsSpec)

/-- 'parquetrylaw5.AxesBack', WHERE WHAT IT READS IS OF BULK AT MOST 1048576: true; the input reads as it did. -/
def axesBackUptoRow : OpenClaim := { program := "ytkdadlgokelcjaa", sum := "5b04a5abbb0cda37bd65caa383371f008d2b4722870525a77d7a8c4ec795d538", func := "parquetry/parquetrylaw5.AxesBack", spec := "axesBack", unfollowed := true, recurses := true, apart := false, narrowed := true }
def AxesBackUptoSaid : Prop := axesBackUptoRow.holds Try.pinned (OpenSpec.upto axesBackSpec)

/-- 'parquetrylaw5.AxesSpread', WHERE WHAT IT READS IS OF BULK AT MOST 1048576: true; the input reads as it did. -/
def axesSpreadUptoRow : OpenClaim := { program := "ytkdadlgokelcjaa", sum := "5b04a5abbb0cda37bd65caa383371f008d2b4722870525a77d7a8c4ec795d538", func := "parquetry/parquetrylaw5.AxesSpread", spec := "axesSpread", unfollowed := true, recurses := true, apart := false, narrowed := true }
def AxesSpreadUptoSaid : Prop := axesSpreadUptoRow.holds Try.pinned (OpenSpec.upto axesSpreadSpec)

/-- 'parquetrylaw5.AxesTells', WHERE WHAT IT READS IS OF BULK AT MOST 1048576: true; the input reads as it did. -/
def axesTellsUptoRow : OpenClaim := { program := "ytkdadlgokelcjaa", sum := "5b04a5abbb0cda37bd65caa383371f008d2b4722870525a77d7a8c4ec795d538", func := "parquetry/parquetrylaw5.AxesTells", spec := "axesTells", unfollowed := true, recurses := true, apart := false, narrowed := true }
def AxesTellsUptoSaid : Prop := axesTellsUptoRow.holds Try.pinned (OpenSpec.upto axesTellsSpec)

end Rows
end Go.Proofs.Ytkdadlgokelcjaa
