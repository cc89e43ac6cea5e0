/-
  No cell of these rows narrows 'for every input' (looked for: loops, veiled, ifaces, maps, wideKeys, modest, calm, conditions, laid).
  DERIVED. THE GIVEN ROWS OF THIS SEAT. 4 by the template 'for every input the law returns true; each argument reads behind the call as it read before'; 0 by the template 'total and deterministic' (their statements: YtcpgpddecdlocaaTotals.lean).
  GIVEN WITH THE SEED: the statements are not yours to turn. If you find one false, say at which input.
  Laid BY PROGRAM, IN A SANDBOX (cutbox-rows.mjs): the forced cells as the released guide's own fill.sh prints them over the translation e39ff233acfec79a… (all of the seat's roots in one cut). By AI agents, Wed Nov 11 2026. No macro, syntax, notation, axiom, sorry.
-/
import Derived.Test.YtcpgpddecdlocaaChecked
import GoSem.Claim
import GoSem.ClaimJoined
import GoSem.ClaimMapViews
import Derived.JoinedTies
import Derived.KernelRfl
namespace Go.Proofs.Ytcpgpddecdlocaa
/- THE CELL 'sum', in the pinned program and in every row, IS THE sha256 OF THE DUMP (.gsa) THAT YtcpgpddecdlocaaProg.lean LOADS. Nothing in Lean hashes anything: it is a label: what it is worth is what the hold of that sum in a sandbox is worth. -/
noncomputable def Try.pinned : Pinned := { name := "ytcpgpddecdlocaa", sum := "e39ff233acfec79a1adaf80c7c50fec479277d3d431a9ca59931a28528f7a5dd", checked := Try.checked }
namespace Rows
def none {H : Type} : Left H := { results := [], args := [] }

/-- 'parquetrylaw17.SplitNumbers': WHATEVER THE INPUT: true; the input reads as it did. -/
def splitNumbersSpec : ChangeSpec := { name := "splitNumbers", fn := fun _ => fun
  | [] => { results := [.lit (.bool true)], args := [] }
  | _ => none }
def splitNumbersRow : OpenClaim := { program := "ytcpgpddecdlocaa", sum := "e39ff233acfec79a1adaf80c7c50fec479277d3d431a9ca59931a28528f7a5dd", func := "parquetry/parquetrylaw17.SplitNumbers", spec := "splitNumbers", unfollowed := true, recurses := true, apart := false }
def SplitNumbersSaid : Prop := splitNumbersRow.holds Try.pinned (OpenSpec.ofChange splitNumbersSpec)

/-- ITS FALSE NEIGHBOUR: 'it returns false'. Refute it at one input. -/
def splitNumbersWrong : ChangeSpec := { name := "splitNumbers", fn := fun _ => fun
  | [] => { results := [.lit (.bool false)], args := [] }
  | _ => none }
def SplitNumbersWrongFalsely : Prop := splitNumbersRow.holds Try.pinned (OpenSpec.ofChange splitNumbersWrong)

/-- 'parquetrylaw17.SplitTells': WHATEVER THE INPUT: true; the input reads as it did. -/
def splitTellsSpec : ChangeSpec := { name := "splitTells", fn := fun _ => fun
  | [d1, d2, d3, d4, d5, d6, d7, d8, d9] => { results := [.lit (.bool true)], args := [d1, d2, d3, d4, d5, d6, d7, d8, d9] }
  | _ => none }
def splitTellsRow : OpenClaim := { program := "ytcpgpddecdlocaa", sum := "e39ff233acfec79a1adaf80c7c50fec479277d3d431a9ca59931a28528f7a5dd", func := "parquetry/parquetrylaw17.SplitTells", spec := "splitTells", unfollowed := true, recurses := true, apart := false }
def SplitTellsSaid : Prop := splitTellsRow.holds Try.pinned (OpenSpec.ofChange splitTellsSpec)

/-- ITS FALSE NEIGHBOUR: 'it returns false'. Refute it at one input. -/
def splitTellsWrong : ChangeSpec := { name := "splitTells", fn := fun _ => fun
  | [d1, d2, d3, d4, d5, d6, d7, d8, d9] => { results := [.lit (.bool false)], args := [d1, d2, d3, d4, d5, d6, d7, d8, d9] }
  | _ => none }
def SplitTellsWrongFalsely : Prop := splitTellsRow.holds Try.pinned (OpenSpec.ofChange splitTellsWrong)

/-- 'parquetrylaw17.SplitBack': WHATEVER THE INPUT: true; the input reads as it did. -/
def splitBackSpec : ChangeSpec := { name := "splitBack", fn := fun _ => fun
  | [d] => { results := [.lit (.bool true)], args := [d] }
  | _ => none }
def splitBackRow : OpenClaim := { program := "ytcpgpddecdlocaa", sum := "e39ff233acfec79a1adaf80c7c50fec479277d3d431a9ca59931a28528f7a5dd", func := "parquetry/parquetrylaw17.SplitBack", spec := "splitBack", unfollowed := true, recurses := true, apart := false }
def SplitBackSaid : Prop := splitBackRow.holds Try.pinned (OpenSpec.ofChange splitBackSpec)

/-- ITS FALSE NEIGHBOUR: 'it returns false'. Refute it at one input. -/
def splitBackWrong : ChangeSpec := { name := "splitBack", fn := fun _ => fun
  | [d] => { results := [.lit (.bool false)], args := [d] }
  | _ => none }
def SplitBackWrongFalsely : Prop := splitBackRow.holds Try.pinned (OpenSpec.ofChange splitBackWrong)

/-- 'parquetrylaw17.SplitFirsts': WHATEVER THE INPUT: true; the input reads as it did. -/
def splitFirstsSpec : ChangeSpec := { name := "splitFirsts", fn := fun _ => fun
  | [d1, d2] => { results := [.lit (.bool true)], args := [d1, d2] }
  | _ => none }
def splitFirstsRow : OpenClaim := { program := "ytcpgpddecdlocaa", sum := "e39ff233acfec79a1adaf80c7c50fec479277d3d431a9ca59931a28528f7a5dd", func := "parquetry/parquetrylaw17.SplitFirsts", spec := "splitFirsts", unfollowed := true, recurses := true, apart := false }
def SplitFirstsSaid : Prop := splitFirstsRow.holds Try.pinned (OpenSpec.ofChange splitFirstsSpec)

/-- ITS FALSE NEIGHBOUR: 'it returns false'. Refute it at one input. -/
def splitFirstsWrong : ChangeSpec := { name := "splitFirsts", fn := fun _ => fun
  | [d1, d2] => { results := [.lit (.bool false)], args := [d1, d2] }
  | _ => none }
def SplitFirstsWrongFalsely : Prop := splitFirstsRow.holds Try.pinned (OpenSpec.ofChange splitFirstsWrong)

/- THE SECOND FORM. 'bulk': how many values and letters a reading holds, each counted each time it is reached (what is shared counts as often as it is met; a slice's spare places count too). A statement '..UptoSaid' is the law's where the arguments, and the package variables that the reading takes, are together of bulk at most 1048576: NARROWER than '..Said'. Prove '..Said' where nothing that the law and all that it calls make is longer than what came in: it says more and counts as full. Else prove '..UptoSaid'. A law counts once. -/
mutual
def uptoBulk {H : Type} : DataW H → Nat
  | .lit (.string bytes) => bytes.length + 1
  | .lit _ => 1
  | .nil => 1
  | .ptr d => uptoBulk d + 1
  | .slice elems spare => uptoBulkAll elems + uptoBulkAll spare + 1
  | .agg parts => uptoBulkAll parts + 1
  | .iface _ d => uptoBulk d + 1
  | .map entries => uptoBulkEntries entries + 1
  | .held _ => 1
def uptoBulkAll {H : Type} : List (DataW H) → Nat
  | [] => 0
  | d :: r => uptoBulk d + uptoBulkAll r
def uptoBulkEntries {H : Type} : List (Lit × DataW H) → Nat
  | [] => 0
  | x :: r => uptoBulkEntry x + uptoBulkEntries r
def uptoBulkEntry {H : Type} : Lit × DataW H → Nat
  | (.string bytes, d) => bytes.length + uptoBulk d + 1
  | (_, d) => uptoBulk d + 1
 end
def uptoSmall : (H : Type) → List (DataW H) → Bool := fun _ ds => decide (uptoBulkAll ds ≤ 1048576)
def OpenSpec.upto (s : _root_.Go.ChangeSpec) : _root_.Go.OpenSpec := { _root_.Go.OpenSpec.ofChange s with cond := some uptoSmall }

/-- 'parquetrylaw17.SplitNumbers', WHERE WHAT IT READS IS OF BULK AT MOST 1048576: true; the input reads as it did. -/
def splitNumbersUptoRow : OpenClaim := { program := "ytcpgpddecdlocaa", sum := "e39ff233acfec79a1adaf80c7c50fec479277d3d431a9ca59931a28528f7a5dd", func := "parquetry/parquetrylaw17.SplitNumbers", spec := "splitNumbers", unfollowed := true, recurses := true, apart := false, narrowed := true }
def SplitNumbersUptoSaid : Prop := splitNumbersUptoRow.holds Try.pinned (OpenSpec.upto splitNumbersSpec)

/-- 'parquetrylaw17.SplitTells', WHERE WHAT IT READS IS OF BULK AT MOST 1048576: true; the input reads as it did. -/
def splitTellsUptoRow : OpenClaim := { program := "ytcpgpddecdlocaa", sum := "e39ff233acfec79a1adaf80c7c50fec479277d3d431a9ca59931a28528f7a5dd", func := "parquetry/parquetrylaw17.SplitTells", spec := "splitTells", unfollowed := true, recurses := true, apart := false, narrowed := true }
def SplitTellsUptoSaid : Prop := splitTellsUptoRow.holds Try.pinned (OpenSpec.upto splitTellsSpec)

/-- 'parquetrylaw17.SplitBack', WHERE WHAT IT READS IS OF BULK AT MOST 1048576: true; the input reads as it did. -/
def splitBackUptoRow : OpenClaim := { program := "ytcpgpddecdlocaa", sum := "e39ff233acfec79a1adaf80c7c50fec479277d3d431a9ca59931a28528f7a5dd", func := "parquetry/parquetrylaw17.SplitBack", spec := "splitBack", unfollowed := true, recurses := true, apart := false, narrowed := true }
def SplitBackUptoSaid : Prop := splitBackUptoRow.holds Try.pinned (OpenSpec.upto splitBackSpec)

/-- 'parquetrylaw17.SplitFirsts', WHERE WHAT IT READS IS OF BULK AT MOST 1048576: true; the input reads as it did. -/
def splitFirstsUptoRow : OpenClaim := { program := "ytcpgpddecdlocaa", sum := "e39ff233acfec79a1adaf80c7c50fec479277d3d431a9ca59931a28528f7a5dd", func := "parquetry/parquetrylaw17.SplitFirsts", spec := "splitFirsts", unfollowed := true, recurses := true, apart := false, narrowed := true }
def SplitFirstsUptoSaid : Prop := splitFirstsUptoRow.holds Try.pinned (OpenSpec.upto splitFirstsSpec)

end Rows
end Go.Proofs.Ytcpgpddecdlocaa
