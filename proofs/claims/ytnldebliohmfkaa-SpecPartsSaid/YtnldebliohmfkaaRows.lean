/-
  No cell of these rows narrows 'for every input' (looked for: loops, veiled, ifaces, maps, wideKeys, modest, calm, conditions, laid).
  DERIVED. THE GIVEN ROWS OF THIS SEAT. 3 by the template 'for every input the law returns true; each argument reads behind the call as it read before'; 0 by the template 'total and deterministic' (their statements: YtnldebliohmfkaaTotals.lean).
  GIVEN WITH THE SEED: the statements are not yours to turn. If you find one false, say at which input.
  Laid BY PROGRAM, IN A SANDBOX (cutbox-rows.mjs): the forced cells as the released guide's own fill.sh prints them over the translation fd78b48e5cf9ba76… (all of the seat's roots in one cut). By AI agents, Wed Nov 11 2026. No macro, syntax, notation, axiom, sorry.
-/
import Derived.Test.YtnldebliohmfkaaChecked
import GoSem.Claim
import GoSem.ClaimJoined
import GoSem.ClaimMapViews
import Derived.JoinedTies
import Derived.KernelRfl
namespace Go.Proofs.Ytnldebliohmfkaa
/- THE CELL 'sum', in the pinned program and in every row, IS THE sha256 OF THE DUMP (.gsa) THAT YtnldebliohmfkaaProg.lean LOADS. Nothing in Lean hashes anything: it is a label: what it is worth is what the hold of that sum in a sandbox is worth. -/
noncomputable def Try.pinned : Pinned := { name := "ytnldebliohmfkaa", sum := "fd78b48e5cf9ba763f578bb57d09b2414d53b4f74f8cedf438bc474155116954", checked := Try.checked }
namespace Rows
def none {H : Type} : Left H := { results := [], args := [] }

/-- 'parquetrylaw15.SpecNumbers': WHATEVER THE INPUT: true; the input reads as it did. -/
def specNumbersSpec : ChangeSpec := { name := "specNumbers", fn := fun _ => fun
  | [] => { results := [.lit (.bool true)], args := [] }
  | _ => none }
def specNumbersRow : OpenClaim := { program := "ytnldebliohmfkaa", sum := "fd78b48e5cf9ba763f578bb57d09b2414d53b4f74f8cedf438bc474155116954", func := "parquetry/parquetrylaw15.SpecNumbers", spec := "specNumbers", apart := false }
def SpecNumbersSaid : Prop := specNumbersRow.holds Try.pinned (OpenSpec.ofChange specNumbersSpec)

/-- ITS FALSE NEIGHBOUR: 'it returns false'. Refute it at one input. -/
def specNumbersWrong : ChangeSpec := { name := "specNumbers", fn := fun _ => fun
  | [] => { results := [.lit (.bool false)], args := [] }
  | _ => none }
def SpecNumbersWrongFalsely : Prop := specNumbersRow.holds Try.pinned (OpenSpec.ofChange specNumbersWrong)

/-- 'parquetrylaw15.SpecCopies': WHATEVER THE INPUT: true; the input reads as it did. -/
def specCopiesSpec : ChangeSpec := { name := "specCopies", fn := fun _ => fun
  | [d] => { results := [.lit (.bool true)], args := [d] }
  | _ => none }
def specCopiesRow : OpenClaim := { program := "ytnldebliohmfkaa", sum := "fd78b48e5cf9ba763f578bb57d09b2414d53b4f74f8cedf438bc474155116954", func := "parquetry/parquetrylaw15.SpecCopies", spec := "specCopies", apart := false }
def SpecCopiesSaid : Prop := specCopiesRow.holds Try.pinned (OpenSpec.ofChange specCopiesSpec)

/-- ITS FALSE NEIGHBOUR: 'it returns false'. Refute it at one input. -/
def specCopiesWrong : ChangeSpec := { name := "specCopies", fn := fun _ => fun
  | [d] => { results := [.lit (.bool false)], args := [d] }
  | _ => none }
def SpecCopiesWrongFalsely : Prop := specCopiesRow.holds Try.pinned (OpenSpec.ofChange specCopiesWrong)

/-- 'parquetrylaw15.SpecParts': WHATEVER THE INPUT: true; the input reads as it did. -/
def specPartsSpec : ChangeSpec := { name := "specParts", fn := fun _ => fun
  | [d1, d2] => { results := [.lit (.bool true)], args := [d1, d2] }
  | _ => none }
def specPartsRow : OpenClaim := { program := "ytnldebliohmfkaa", sum := "fd78b48e5cf9ba763f578bb57d09b2414d53b4f74f8cedf438bc474155116954", func := "parquetry/parquetrylaw15.SpecParts", spec := "specParts", apart := false }
def SpecPartsSaid : Prop := specPartsRow.holds Try.pinned (OpenSpec.ofChange specPartsSpec)

/-- ITS FALSE NEIGHBOUR: 'it returns false'. Refute it at one input. -/
def specPartsWrong : ChangeSpec := { name := "specParts", fn := fun _ => fun
  | [d1, d2] => { results := [.lit (.bool false)], args := [d1, d2] }
  | _ => none }
def SpecPartsWrongFalsely : Prop := specPartsRow.holds Try.pinned (OpenSpec.ofChange specPartsWrong)

/- THE SECOND FORM. 'bulk': how many values and letters a reading holds, each counted each time it is reached (what is shared counts as often as it is met; a slice's spare places count too). A statement '..UptoSaid' is the law's where the arguments, and the package variables that the reading takes, are together of bulk at most 1048576: NARROWER than '..Said'. Prove '..Said' where nothing that the law and all that it calls make is longer than what came in: it says more and counts as full. Else prove '..UptoSaid'. A law counts once. -/
mutual
def uptoBulk {H : Type} : DataW H → Nat
  | .lit (.string bytes) => bytes.length + 1
  | .lit _ => 1
  | .nil => 1
  | .ptr d => uptoBulk d + 1
  | .slice elems spare => uptoBulkAll elems + uptoBulkAll spare + 1
  | .agg parts => uptoBulkAll parts + 1
  | .iface _ d => uptoBulk d + 1
  | .map entries => uptoBulkEntries entries + 1
  | .held _ => 1
def uptoBulkAll {H : Type} : List (DataW H) → Nat
  | [] => 0
  | d :: r => uptoBulk d + uptoBulkAll r
def uptoBulkEntries {H : Type} : List (Lit × DataW H) → Nat
  | [] => 0
  | x :: r => uptoBulkEntry x + uptoBulkEntries r
def uptoBulkEntry {H : Type} : Lit × DataW H → Nat
  | (.string bytes, d) => bytes.length + uptoBulk d + 1
  | (_, d) => uptoBulk d + 1
 end
def uptoSmall : (H : Type) → List (DataW H) → Bool := fun _ ds => decide (uptoBulkAll ds ≤ 1048576)
def OpenSpec.upto (s : _root_.Go.ChangeSpec) : _root_.Go.OpenSpec := { _root_.Go.OpenSpec.ofChange s with cond := some uptoSmall }

/-- 'parquetrylaw15.SpecNumbers', WHERE WHAT IT READS IS OF BULK AT MOST 1048576: true; the input reads as it did. -/
def specNumbersUptoRow : OpenClaim := { program := "ytnldebliohmfkaa", sum := "fd78b48e5cf9ba763f578bb57d09b2414d53b4f74f8cedf438bc474155116954", func := "parquetry/parquetrylaw15.SpecNumbers", spec := "specNumbers", apart := false, narrowed := true }
def SpecNumbersUptoSaid : Prop := specNumbersUptoRow.holds Try.pinned (OpenSpec.upto specNumbersSpec)

/-- 'parquetrylaw15.SpecCopies', WHERE WHAT IT READS IS OF BULK AT MOST 1048576: true; the input reads as it did. -/
def specCopiesUptoRow : OpenClaim := { program := "ytnldebliohmfkaa", sum := "fd78b48e5cf9ba763f578bb57d09b2414d53b4f74f8cedf438bc474155116954", func := "parquetry/parquetrylaw15.SpecCopies", spec := "specCopies", apart := false, narrowed := true }
def SpecCopiesUptoSaid : Prop := specCopiesUptoRow.holds Try.pinned (OpenSpec.upto specCopiesSpec)

/-- 'parquetrylaw15.SpecParts', WHERE WHAT IT READS IS OF BULK AT MOST 1048576: true; the input reads as it did. -/
def specPartsUptoRow : OpenClaim := { program := "ytnldebliohmfkaa", sum := "fd78b48e5cf9ba763f578bb57d09b2414d53b4f74f8cedf438bc474155116954", func := "parquetry/parquetrylaw15.SpecParts", spec := "specParts", apart := false, narrowed := true }
def SpecPartsUptoSaid : Prop := specPartsUptoRow.holds Try.pinned (OpenSpec.upto specPartsSpec)

end Rows
end Go.Proofs.Ytnldebliohmfkaa
