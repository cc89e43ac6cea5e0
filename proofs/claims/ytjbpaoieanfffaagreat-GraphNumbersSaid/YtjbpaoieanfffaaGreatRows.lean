/-
  No cell of these rows narrows 'for every input' (looked for: loops, veiled, ifaces, maps, wideKeys, modest, calm, conditions, laid).
  DERIVED. THE GIVEN ROWS OF THIS SEAT. 4 by the template 'for every input the law returns true; each argument reads behind the call as it read before'; 0 by the template 'total and deterministic' (their statements: YtjbpaoieanfffaaGreatTotals.lean).
  GIVEN WITH THE SEED: the statements are not yours to turn. If you find one false, say at which input.
  Laid BY PROGRAM, IN A SANDBOX (cutbox-rows.mjs): the forced cells as the released guide's own fill.sh prints them over the translation f79a1ec0cb1e1e63… (all of the seat's roots in one cut). By AI agents, Wed Nov 11 2026. No macro, syntax, notation, axiom, sorry.
-/
import Derived.Test.YtjbpaoieanfffaaGreatChecked
import GoSem.Claim
import GoSem.ClaimJoined
import GoSem.ClaimMapViews
import Derived.JoinedTies
import Derived.KernelRfl
namespace Go.Proofs.YtjbpaoieanfffaaGreat
/- THE CELL 'sum', in the pinned program and in every row, IS THE sha256 OF THE DUMP (.gsa) THAT YtjbpaoieanfffaaGreatProg.lean LOADS. Nothing in Lean hashes anything: it is a label: what it is worth is what the hold of that sum in a sandbox is worth. -/
noncomputable def Tryz.pinned : Pinned := { name := "ytjbpaoieanfffaagreat", sum := "f79a1ec0cb1e1e633181f5d3071a3d4f930211e90f07997787d9c067c4620a58", checked := Tryz.checked }
namespace Rows
def none {H : Type} : Left H := { results := [], args := [] }

/-- 'parquetrylaw10.GraphMade': WHATEVER THE INPUT: true; the input reads as it did. -/
def graphMadeSpec : ChangeSpec := { name := "graphMade", fn := fun _ => fun
  | [d] => { results := [.lit (.bool true)], args := [d] }
  | _ => none }
def graphMadeRow : OpenClaim := { program := "ytjbpaoieanfffaagreat", sum := "f79a1ec0cb1e1e633181f5d3071a3d4f930211e90f07997787d9c067c4620a58", func := "parquetry/parquetrylaw10.GraphMade", spec := "graphMade", unfollowed := true, recurses := true, apart := false }
def GraphMadeSaid : Prop := graphMadeRow.holds Tryz.pinned (OpenSpec.ofChange graphMadeSpec)

/-- ITS FALSE NEIGHBOUR: 'it returns false'. Refute it at one input. -/
def graphMadeWrong : ChangeSpec := { name := "graphMade", fn := fun _ => fun
  | [d] => { results := [.lit (.bool false)], args := [d] }
  | _ => none }
def GraphMadeWrongFalsely : Prop := graphMadeRow.holds Tryz.pinned (OpenSpec.ofChange graphMadeWrong)

/-- 'parquetrylaw10.GraphNotes': WHATEVER THE INPUT: true; the input reads as it did. -/
def graphNotesSpec : ChangeSpec := { name := "graphNotes", fn := fun _ => fun
  | [d1, d2] => { results := [.lit (.bool true)], args := [d1, d2] }
  | _ => none }
def graphNotesRow : OpenClaim := { program := "ytjbpaoieanfffaagreat", sum := "f79a1ec0cb1e1e633181f5d3071a3d4f930211e90f07997787d9c067c4620a58", func := "parquetry/parquetrylaw10.GraphNotes", spec := "graphNotes", unfollowed := true, recurses := true, apart := false }
def GraphNotesSaid : Prop := graphNotesRow.holds Tryz.pinned (OpenSpec.ofChange graphNotesSpec)

/-- ITS FALSE NEIGHBOUR: 'it returns false'. Refute it at one input. -/
def graphNotesWrong : ChangeSpec := { name := "graphNotes", fn := fun _ => fun
  | [d1, d2] => { results := [.lit (.bool false)], args := [d1, d2] }
  | _ => none }
def GraphNotesWrongFalsely : Prop := graphNotesRow.holds Tryz.pinned (OpenSpec.ofChange graphNotesWrong)

/-- 'parquetrylaw10.GraphNumbers': WHATEVER THE INPUT: true; the input reads as it did. -/
def graphNumbersSpec : ChangeSpec := { name := "graphNumbers", fn := fun _ => fun
  | [] => { results := [.lit (.bool true)], args := [] }
  | _ => none }
def graphNumbersRow : OpenClaim := { program := "ytjbpaoieanfffaagreat", sum := "f79a1ec0cb1e1e633181f5d3071a3d4f930211e90f07997787d9c067c4620a58", func := "parquetry/parquetrylaw10.GraphNumbers", spec := "graphNumbers", unfollowed := true, recurses := true, apart := false }
def GraphNumbersSaid : Prop := graphNumbersRow.holds Tryz.pinned (OpenSpec.ofChange graphNumbersSpec)

/-- ITS FALSE NEIGHBOUR: 'it returns false'. Refute it at one input. -/
def graphNumbersWrong : ChangeSpec := { name := "graphNumbers", fn := fun _ => fun
  | [] => { results := [.lit (.bool false)], args := [] }
  | _ => none }
def GraphNumbersWrongFalsely : Prop := graphNumbersRow.holds Tryz.pinned (OpenSpec.ofChange graphNumbersWrong)

/-- 'parquetrylaw10.GraphCopies': WHATEVER THE INPUT: true; the input reads as it did. -/
def graphCopiesSpec : ChangeSpec := { name := "graphCopies", fn := fun _ => fun
  | [d] => { results := [.lit (.bool true)], args := [d] }
  | _ => none }
def graphCopiesRow : OpenClaim := { program := "ytjbpaoieanfffaagreat", sum := "f79a1ec0cb1e1e633181f5d3071a3d4f930211e90f07997787d9c067c4620a58", func := "parquetry/parquetrylaw10.GraphCopies", spec := "graphCopies", unfollowed := true, recurses := true, apart := false }
def GraphCopiesSaid : Prop := graphCopiesRow.holds Tryz.pinned (OpenSpec.ofChange graphCopiesSpec)

/-- ITS FALSE NEIGHBOUR: 'it returns false'. Refute it at one input. -/
def graphCopiesWrong : ChangeSpec := { name := "graphCopies", fn := fun _ => fun
  | [d] => { results := [.lit (.bool false)], args := [d] }
  | _ => none }
def GraphCopiesWrongFalsely : Prop := graphCopiesRow.holds Tryz.pinned (OpenSpec.ofChange graphCopiesWrong)

/- THE SECOND FORM. 'bulk': how many values and letters a reading holds, each counted each time it is reached (what is shared counts as often as it is met; a slice's spare places count too). A statement '..UptoSaid' is the law's where the arguments, and the package variables that the reading takes, are together of bulk at most 1048576: NARROWER than '..Said'. Prove '..Said' where nothing that the law and all that it calls make is longer than what came in: it says more and counts as full. Else prove '..UptoSaid'. A law counts once. -/
mutual
def uptoBulk {H : Type} : DataW H → Nat
  | .lit (.string bytes) => bytes.length + 1
  | .lit _ => 1
  | .nil => 1
  | .ptr d => uptoBulk d + 1
  | .slice elems spare => uptoBulkAll elems + uptoBulkAll spare + 1
  | .agg parts => uptoBulkAll parts + 1
  | .iface _ d => uptoBulk d + 1
  | .map entries => uptoBulkEntries entries + 1
  | .held _ => 1
def uptoBulkAll {H : Type} : List (DataW H) → Nat
  | [] => 0
  | d :: r => uptoBulk d + uptoBulkAll r
def uptoBulkEntries {H : Type} : List (Lit × DataW H) → Nat
  | [] => 0
  | x :: r => uptoBulkEntry x + uptoBulkEntries r
def uptoBulkEntry {H : Type} : Lit × DataW H → Nat
  | (.string bytes, d) => bytes.length + uptoBulk d + 1
  | (_, d) => uptoBulk d + 1
 end
def uptoSmall : (H : Type) → List (DataW H) → Bool := fun _ ds => decide (uptoBulkAll ds ≤ 1048576)
def OpenSpec.upto (s : _root_.Go.ChangeSpec) : _root_.Go.OpenSpec := { _root_.Go.OpenSpec.ofChange s with cond := some uptoSmall }

/-- 'parquetrylaw10.GraphMade', WHERE WHAT IT READS IS OF BULK AT MOST 1048576: true; the input reads as it did. -/
def graphMadeUptoRow : OpenClaim := { program := "ytjbpaoieanfffaagreat", sum := "f79a1ec0cb1e1e633181f5d3071a3d4f930211e90f07997787d9c067c4620a58", func := "parquetry/parquetrylaw10.GraphMade", spec := "graphMade", unfollowed := true, recurses := true, apart := false, narrowed := true }
def GraphMadeUptoSaid : Prop := graphMadeUptoRow.holds Tryz.pinned (OpenSpec.upto graphMadeSpec)

/-- 'parquetrylaw10.GraphNotes', WHERE WHAT IT READS IS OF BULK AT MOST 1048576: true; the input reads as it did. -/
def graphNotesUptoRow : OpenClaim := { program := "ytjbpaoieanfffaagreat", sum := "f79a1ec0cb1e1e633181f5d3071a3d4f930211e90f07997787d9c067c4620a58", func := "parquetry/parquetrylaw10.GraphNotes", spec := "graphNotes", unfollowed := true, recurses := true, apart := false, narrowed := true }
def GraphNotesUptoSaid : Prop := graphNotesUptoRow.holds Tryz.pinned (OpenSpec.upto graphNotesSpec)

/-- 'parquetrylaw10.GraphNumbers', WHERE WHAT IT READS IS OF BULK AT MOST 1048576: true; the input reads as it did. -/
def graphNumbersUptoRow : OpenClaim := { program := "ytjbpaoieanfffaagreat", sum := "f79a1ec0cb1e1e633181f5d3071a3d4f930211e90f07997787d9c067c4620a58", func := "parquetry/parquetrylaw10.GraphNumbers", spec := "graphNumbers", unfollowed := true, recurses := true, apart := false, narrowed := true }
def GraphNumbersUptoSaid : Prop := graphNumbersUptoRow.holds Tryz.pinned (OpenSpec.upto graphNumbersSpec)

/-- 'parquetrylaw10.GraphCopies', WHERE WHAT IT READS IS OF BULK AT MOST 1048576: true; the input reads as it did. -/
def graphCopiesUptoRow : OpenClaim := { program := "ytjbpaoieanfffaagreat", sum := "f79a1ec0cb1e1e633181f5d3071a3d4f930211e90f07997787d9c067c4620a58", func := "parquetry/parquetrylaw10.GraphCopies", spec := "graphCopies", unfollowed := true, recurses := true, apart := false, narrowed := true }
def GraphCopiesUptoSaid : Prop := graphCopiesUptoRow.holds Tryz.pinned (OpenSpec.upto graphCopiesSpec)

end Rows
end Go.Proofs.YtjbpaoieanfffaaGreat
