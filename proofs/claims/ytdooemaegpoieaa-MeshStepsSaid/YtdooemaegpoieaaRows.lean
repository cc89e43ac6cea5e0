/-
  No cell of these rows narrows 'for every input' (looked for: loops, veiled, ifaces, maps, wideKeys, modest, calm, conditions, laid).
  DERIVED. THE GIVEN ROWS OF THIS SEAT. 4 by the template 'for every input the law returns true; each argument reads behind the call as it read before'; 0 by the template 'total and deterministic' (their statements: YtdooemaegpoieaaTotals.lean).
  GIVEN WITH THE SEED: the statements are not yours to turn. If you find one false, say at which input.
  Laid BY PROGRAM, IN A SANDBOX (cutbox-rows.mjs): the forced cells as the released guide's own fill.sh prints them over the translation d5a9d42e04af1833… (all of the seat's roots in one cut). By AI agents, Wed Nov 11 2026. No macro, syntax, notation, axiom, sorry.
-/
import Derived.Test.YtdooemaegpoieaaChecked
import GoSem.Claim
import GoSem.ClaimJoined
import GoSem.ClaimMapViews
import Derived.JoinedTies
import Derived.KernelRfl
namespace Go.Proofs.Ytdooemaegpoieaa
/- THE CELL 'sum', in the pinned program and in every row, IS THE sha256 OF THE DUMP (.gsa) THAT YtdooemaegpoieaaProg.lean LOADS. Nothing in Lean hashes anything: it is a label: what it is worth is what the hold of that sum in a sandbox is worth. -/
noncomputable def Try.pinned : Pinned := { name := "ytdooemaegpoieaa", sum := "d5a9d42e04af1833adbcc4df24c3ab2bf3f6bd71b944cd6bfc4ebe518eab797e", checked := Try.checked }
namespace Rows
def none {H : Type} : Left H := { results := [], args := [] }

/-- 'parquetrylaw14.MeshNumbers': WHATEVER THE INPUT: true; the input reads as it did. -/
def meshNumbersSpec : ChangeSpec := { name := "meshNumbers", fn := fun _ => fun
  | [] => { results := [.lit (.bool true)], args := [] }
  | _ => none }
def meshNumbersRow : OpenClaim := { program := "ytdooemaegpoieaa", sum := "d5a9d42e04af1833adbcc4df24c3ab2bf3f6bd71b944cd6bfc4ebe518eab797e", func := "parquetry/parquetrylaw14.MeshNumbers", spec := "meshNumbers", apart := false }
def MeshNumbersSaid : Prop := meshNumbersRow.holds Try.pinned (OpenSpec.ofChange meshNumbersSpec)

/-- ITS FALSE NEIGHBOUR: 'it returns false'. Refute it at one input. -/
def meshNumbersWrong : ChangeSpec := { name := "meshNumbers", fn := fun _ => fun
  | [] => { results := [.lit (.bool false)], args := [] }
  | _ => none }
def MeshNumbersWrongFalsely : Prop := meshNumbersRow.holds Try.pinned (OpenSpec.ofChange meshNumbersWrong)

/-- 'parquetrylaw14.MeshTells': WHATEVER THE INPUT: true; the input reads as it did. -/
def meshTellsSpec : ChangeSpec := { name := "meshTells", fn := fun _ => fun
  | [d1, d2, d3, d4, d5, d6] => { results := [.lit (.bool true)], args := [d1, d2, d3, d4, d5, d6] }
  | _ => none }
def meshTellsRow : OpenClaim := { program := "ytdooemaegpoieaa", sum := "d5a9d42e04af1833adbcc4df24c3ab2bf3f6bd71b944cd6bfc4ebe518eab797e", func := "parquetry/parquetrylaw14.MeshTells", spec := "meshTells", apart := false }
def MeshTellsSaid : Prop := meshTellsRow.holds Try.pinned (OpenSpec.ofChange meshTellsSpec)

/-- ITS FALSE NEIGHBOUR: 'it returns false'. Refute it at one input. -/
def meshTellsWrong : ChangeSpec := { name := "meshTells", fn := fun _ => fun
  | [d1, d2, d3, d4, d5, d6] => { results := [.lit (.bool false)], args := [d1, d2, d3, d4, d5, d6] }
  | _ => none }
def MeshTellsWrongFalsely : Prop := meshTellsRow.holds Try.pinned (OpenSpec.ofChange meshTellsWrong)

/-- 'parquetrylaw14.MeshSteps': WHATEVER THE INPUT: true; the input reads as it did. -/
def meshStepsSpec : ChangeSpec := { name := "meshSteps", fn := fun _ => fun
  | [d1, d2, d3, d4] => { results := [.lit (.bool true)], args := [d1, d2, d3, d4] }
  | _ => none }
def meshStepsRow : OpenClaim := { program := "ytdooemaegpoieaa", sum := "d5a9d42e04af1833adbcc4df24c3ab2bf3f6bd71b944cd6bfc4ebe518eab797e", func := "parquetry/parquetrylaw14.MeshSteps", spec := "meshSteps", apart := false }
def MeshStepsSaid : Prop := meshStepsRow.holds Try.pinned (OpenSpec.ofChange meshStepsSpec)

/-- ITS FALSE NEIGHBOUR: 'it returns false'. Refute it at one input. -/
def meshStepsWrong : ChangeSpec := { name := "meshSteps", fn := fun _ => fun
  | [d1, d2, d3, d4] => { results := [.lit (.bool false)], args := [d1, d2, d3, d4] }
  | _ => none }
def MeshStepsWrongFalsely : Prop := meshStepsRow.holds Try.pinned (OpenSpec.ofChange meshStepsWrong)

/-- 'parquetrylaw14.MeshPlaces': WHATEVER THE INPUT: true; the input reads as it did. -/
def meshPlacesSpec : ChangeSpec := { name := "meshPlaces", fn := fun _ => fun
  | [d] => { results := [.lit (.bool true)], args := [d] }
  | _ => none }
def meshPlacesRow : OpenClaim := { program := "ytdooemaegpoieaa", sum := "d5a9d42e04af1833adbcc4df24c3ab2bf3f6bd71b944cd6bfc4ebe518eab797e", func := "parquetry/parquetrylaw14.MeshPlaces", spec := "meshPlaces", apart := false }
def MeshPlacesSaid : Prop := meshPlacesRow.holds Try.pinned (OpenSpec.ofChange meshPlacesSpec)

/-- ITS FALSE NEIGHBOUR: 'it returns false'. Refute it at one input. -/
def meshPlacesWrong : ChangeSpec := { name := "meshPlaces", fn := fun _ => fun
  | [d] => { results := [.lit (.bool false)], args := [d] }
  | _ => none }
def MeshPlacesWrongFalsely : Prop := meshPlacesRow.holds Try.pinned (OpenSpec.ofChange meshPlacesWrong)

/- THE SECOND FORM. 'bulk': how many values and letters a reading holds, each counted each time it is reached (what is shared counts as often as it is met; a slice's spare places count too). A statement '..UptoSaid' is the law's where the arguments, and the package variables that the reading takes, are together of bulk at most 1048576: NARROWER than '..Said'. Prove '..Said' where nothing that the law and all that it calls make is longer than what came in: it says more and counts as full. Else prove '..UptoSaid'. A law counts once. -/
mutual
def uptoBulk {H : Type} : DataW H → Nat
  | .lit (.string bytes) => bytes.length + 1
  | .lit _ => 1
  | .nil => 1
  | .ptr d => uptoBulk d + 1
  | .slice elems spare => uptoBulkAll elems + uptoBulkAll spare + 1
  | .agg parts => uptoBulkAll parts + 1
  | .iface _ d => uptoBulk d + 1
  | .map entries => uptoBulkEntries entries + 1
  | .held _ => 1
def uptoBulkAll {H : Type} : List (DataW H) → Nat
  | [] => 0
  | d :: r => uptoBulk d + uptoBulkAll r
def uptoBulkEntries {H : Type} : List (Lit × DataW H) → Nat
  | [] => 0
  | x :: r => uptoBulkEntry x + uptoBulkEntries r
def uptoBulkEntry {H : Type} : Lit × DataW H → Nat
  | (.string bytes, d) => bytes.length + uptoBulk d + 1
  | (_, d) => uptoBulk d + 1
 end
def uptoSmall : (H : Type) → List (DataW H) → Bool := fun _ ds => decide (uptoBulkAll ds ≤ 1048576)
def OpenSpec.upto (s : _root_.Go.ChangeSpec) : _root_.Go.OpenSpec := { _root_.Go.OpenSpec.ofChange s with cond := some uptoSmall }

/-- 'parquetrylaw14.MeshNumbers', WHERE WHAT IT READS IS OF BULK AT MOST 1048576: true; the input reads as it did. -/
def meshNumbersUptoRow : OpenClaim := { program := "ytdooemaegpoieaa", sum := "d5a9d42e04af1833adbcc4df24c3ab2bf3f6bd71b944cd6bfc4ebe518eab797e", func := "parquetry/parquetrylaw14.MeshNumbers", spec := "meshNumbers", apart := false, narrowed := true }
def MeshNumbersUptoSaid : Prop := meshNumbersUptoRow.holds Try.pinned (OpenSpec.upto meshNumbersSpec)

/-- 'parquetrylaw14.MeshTells', WHERE WHAT IT READS IS OF BULK AT MOST 1048576: true; the input reads as it did. -/
def meshTellsUptoRow : OpenClaim := { program := "ytdooemaegpoieaa", sum := "d5a9d42e04af1833adbcc4df24c3ab2bf3f6bd71b944cd6bfc4ebe518eab797e", func := "parquetry/parquetrylaw14.MeshTells", spec := "meshTells", apart := false, narrowed := true }
def MeshTellsUptoSaid : Prop := meshTellsUptoRow.holds Try.pinned (OpenSpec.upto meshTellsSpec)

/-- 'parquetrylaw14.MeshSteps', WHERE WHAT IT READS IS OF BULK AT MOST 1048576: true; the input reads as it did. -/
def meshStepsUptoRow : OpenClaim := { program := "ytdooemaegpoieaa", sum := "d5a9d42e04af1833adbcc4df24c3ab2bf3f6bd71b944cd6bfc4ebe518eab797e", func := "parquetry/parquetrylaw14.MeshSteps", spec := "meshSteps", apart := false, narrowed := true }
def MeshStepsUptoSaid : Prop := meshStepsUptoRow.holds Try.pinned (OpenSpec.upto meshStepsSpec)

/-- 'parquetrylaw14.MeshPlaces', WHERE WHAT IT READS IS OF BULK AT MOST 1048576: true; the input reads as it did. -/
def meshPlacesUptoRow : OpenClaim := { program := "ytdooemaegpoieaa", sum := "d5a9d42e04af1833adbcc4df24c3ab2bf3f6bd71b944cd6bfc4ebe518eab797e", func := "parquetry/parquetrylaw14.MeshPlaces", spec := "meshPlaces", apart := false, narrowed := true }
def MeshPlacesUptoSaid : Prop := meshPlacesUptoRow.holds Try.pinned (OpenSpec.upto meshPlacesSpec)

end Rows
end Go.Proofs.Ytdooemaegpoieaa
