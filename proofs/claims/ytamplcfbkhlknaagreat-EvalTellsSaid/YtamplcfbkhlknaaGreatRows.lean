/-
  No cell of these rows narrows 'for every input' (looked for: loops, veiled, ifaces, maps, wideKeys, modest, calm, conditions, laid).
  DERIVED. THE GIVEN ROWS OF THIS SEAT. 4 by the template 'for every input the law returns true; each argument reads behind the call as it read before'; 0 by the template 'total and deterministic' (their statements: YtamplcfbkhlknaaGreatTotals.lean).
  GIVEN WITH THE SEED: the statements are not yours to turn. If you find one false, say at which input.
  Laid BY PROGRAM, IN A SANDBOX (cutbox-rows.mjs): the forced cells as the released guide's own fill.sh prints them over the translation 9db7efb44eaa2328… (all of the seat's roots in one cut). By AI agents, Wed Nov 11 2026. No macro, syntax, notation, axiom, sorry.
-/
import Derived.Test.YtamplcfbkhlknaaGreatChecked
import GoSem.Claim
import GoSem.ClaimJoined
import GoSem.ClaimMapViews
import Derived.JoinedTies
import Derived.KernelRfl
namespace Go.Proofs.YtamplcfbkhlknaaGreat
/- THE CELL 'sum', in the pinned program and in every row, IS THE sha256 OF THE DUMP (.gsa) THAT YtamplcfbkhlknaaGreatProg.lean LOADS. Nothing in Lean hashes anything: it is a label: what it is worth is what the hold of that sum in a sandbox is worth. -/
noncomputable def Tryz.pinned : Pinned := { name := "ytamplcfbkhlknaagreat", sum := "9db7efb44eaa232897a99ed378d1b93e41b8ac744247053f6a956ed90ff0f725", checked := Tryz.checked }
namespace Rows
def none {H : Type} : Left H := { results := [], args := [] }

/-- 'parquetrylaw11.EvalNumbers': WHATEVER THE INPUT: true; the input reads as it did. -/
def evalNumbersSpec : ChangeSpec := { name := "evalNumbers", fn := fun _ => fun
  | [] => { results := [.lit (.bool true)], args := [] }
  | _ => none }
def evalNumbersRow : OpenClaim := { program := "ytamplcfbkhlknaagreat", sum := "9db7efb44eaa232897a99ed378d1b93e41b8ac744247053f6a956ed90ff0f725", func := "parquetry/parquetrylaw11.EvalNumbers", spec := "evalNumbers", unfollowed := true, recurses := true, apart := false }
def EvalNumbersSaid : Prop := evalNumbersRow.holds Tryz.pinned (OpenSpec.ofChange evalNumbersSpec)

/-- ITS FALSE NEIGHBOUR: 'it returns false'. Refute it at one input. -/
def evalNumbersWrong : ChangeSpec := { name := "evalNumbers", fn := fun _ => fun
  | [] => { results := [.lit (.bool false)], args := [] }
  | _ => none }
def EvalNumbersWrongFalsely : Prop := evalNumbersRow.holds Tryz.pinned (OpenSpec.ofChange evalNumbersWrong)

/-- 'parquetrylaw11.EvalTells': WHATEVER THE INPUT: true; the input reads as it did. -/
def evalTellsSpec : ChangeSpec := { name := "evalTells", fn := fun _ => fun
  | [d1, d2, d3, d4, d5] => { results := [.lit (.bool true)], args := [d1, d2, d3, d4, d5] }
  | _ => none }
def evalTellsRow : OpenClaim := { program := "ytamplcfbkhlknaagreat", sum := "9db7efb44eaa232897a99ed378d1b93e41b8ac744247053f6a956ed90ff0f725", func := "parquetry/parquetrylaw11.EvalTells", spec := "evalTells", unfollowed := true, recurses := true, apart := false }
def EvalTellsSaid : Prop := evalTellsRow.holds Tryz.pinned (OpenSpec.ofChange evalTellsSpec)

/-- ITS FALSE NEIGHBOUR: 'it returns false'. Refute it at one input. -/
def evalTellsWrong : ChangeSpec := { name := "evalTells", fn := fun _ => fun
  | [d1, d2, d3, d4, d5] => { results := [.lit (.bool false)], args := [d1, d2, d3, d4, d5] }
  | _ => none }
def EvalTellsWrongFalsely : Prop := evalTellsRow.holds Tryz.pinned (OpenSpec.ofChange evalTellsWrong)

/-- 'parquetrylaw11.EvalOrder': WHATEVER THE INPUT: true; the input reads as it did. -/
def evalOrderSpec : ChangeSpec := { name := "evalOrder", fn := fun _ => fun
  | [d1, d2] => { results := [.lit (.bool true)], args := [d1, d2] }
  | _ => none }
def evalOrderRow : OpenClaim := { program := "ytamplcfbkhlknaagreat", sum := "9db7efb44eaa232897a99ed378d1b93e41b8ac744247053f6a956ed90ff0f725", func := "parquetry/parquetrylaw11.EvalOrder", spec := "evalOrder", unfollowed := true, recurses := true, apart := false }
def EvalOrderSaid : Prop := evalOrderRow.holds Tryz.pinned (OpenSpec.ofChange evalOrderSpec)

/-- ITS FALSE NEIGHBOUR: 'it returns false'. Refute it at one input. -/
def evalOrderWrong : ChangeSpec := { name := "evalOrder", fn := fun _ => fun
  | [d1, d2] => { results := [.lit (.bool false)], args := [d1, d2] }
  | _ => none }
def EvalOrderWrongFalsely : Prop := evalOrderRow.holds Tryz.pinned (OpenSpec.ofChange evalOrderWrong)

/-- 'parquetrylaw11.EvalTwice': WHATEVER THE INPUT: true; the input reads as it did. -/
def evalTwiceSpec : ChangeSpec := { name := "evalTwice", fn := fun _ => fun
  | [d1, d2] => { results := [.lit (.bool true)], args := [d1, d2] }
  | _ => none }
def evalTwiceRow : OpenClaim := { program := "ytamplcfbkhlknaagreat", sum := "9db7efb44eaa232897a99ed378d1b93e41b8ac744247053f6a956ed90ff0f725", func := "parquetry/parquetrylaw11.EvalTwice", spec := "evalTwice", unfollowed := true, recurses := true, apart := false }
def EvalTwiceSaid : Prop := evalTwiceRow.holds Tryz.pinned (OpenSpec.ofChange evalTwiceSpec)

/-- ITS FALSE NEIGHBOUR: 'it returns false'. Refute it at one input. -/
def evalTwiceWrong : ChangeSpec := { name := "evalTwice", fn := fun _ => fun
  | [d1, d2] => { results := [.lit (.bool false)], args := [d1, d2] }
  | _ => none }
def EvalTwiceWrongFalsely : Prop := evalTwiceRow.holds Tryz.pinned (OpenSpec.ofChange evalTwiceWrong)

/- THE SECOND FORM. 'bulk': how many values and letters a reading holds, each counted each time it is reached (what is shared counts as often as it is met; a slice's spare places count too). A statement '..UptoSaid' is the law's where the arguments, and the package variables that the reading takes, are together of bulk at most 1048576: NARROWER than '..Said'. Prove '..Said' where nothing that the law and all that it calls make is longer than what came in: it says more and counts as full. Else prove '..UptoSaid'. A law counts once. -/
mutual
def uptoBulk {H : Type} : DataW H → Nat
  | .lit (.string bytes) => bytes.length + 1
  | .lit _ => 1
  | .nil => 1
  | .ptr d => uptoBulk d + 1
  | .slice elems spare => uptoBulkAll elems + uptoBulkAll spare + 1
  | .agg parts => uptoBulkAll parts + 1
  | .iface _ d => uptoBulk d + 1
  | .map entries => uptoBulkEntries entries + 1
  | .held _ => 1
def uptoBulkAll {H : Type} : List (DataW H) → Nat
  | [] => 0
  | d :: r => uptoBulk d + uptoBulkAll r
def uptoBulkEntries {H : Type} : List (Lit × DataW H) → Nat
  | [] => 0
  | x :: r => uptoBulkEntry x + uptoBulkEntries r
def uptoBulkEntry {H : Type} : Lit × DataW H → Nat
  | (.string bytes, d) => bytes.length + uptoBulk d + 1
  | (_, d) => uptoBulk d + 1
 end
def uptoSmall : (H : Type) → List (DataW H) → Bool := fun _ ds => decide (uptoBulkAll ds ≤ 1048576)
def OpenSpec.upto (s : _root_.Go.ChangeSpec) : _root_.Go.OpenSpec := { _root_.Go.OpenSpec.ofChange s with cond := some uptoSmall }

/-- 'parquetrylaw11.EvalNumbers', WHERE WHAT IT READS IS OF BULK AT MOST 1048576: true; the input reads as it did. -/
def evalNumbersUptoRow : OpenClaim := { program := "ytamplcfbkhlknaagreat", sum := "9db7efb44eaa232897a99ed378d1b93e41b8ac744247053f6a956ed90ff0f725", func := "parquetry/parquetrylaw11.EvalNumbers", spec := "evalNumbers", unfollowed := true, recurses := true, apart := false, narrowed := true }
def EvalNumbersUptoSaid : Prop := evalNumbersUptoRow.holds Tryz.pinned (OpenSpec.upto evalNumbersSpec)

/-- 'parquetrylaw11.EvalTells', WHERE WHAT IT READS IS OF BULK AT MOST 1048576: true; the input reads as it did. -/
def evalTellsUptoRow : OpenClaim := { program := "ytamplcfbkhlknaagreat", sum := "9db7efb44eaa232897a99ed378d1b93e41b8ac744247053f6a956ed90ff0f725", func := "parquetry/parquetrylaw11.EvalTells", spec := "evalTells", unfollowed := true, recurses := true, apart := false, narrowed := true }
def EvalTellsUptoSaid : Prop := evalTellsUptoRow.holds Tryz.pinned (OpenSpec.upto evalTellsSpec)

/-- 'parquetrylaw11.EvalOrder', WHERE WHAT IT READS IS OF BULK AT MOST 1048576: true; the input reads as it did. -/
def evalOrderUptoRow : OpenClaim := { program := "ytamplcfbkhlknaagreat", sum := "9db7efb44eaa232897a99ed378d1b93e41b8ac744247053f6a956ed90ff0f725", func := "parquetry/parquetrylaw11.EvalOrder", spec := "evalOrder", unfollowed := true, recurses := true, apart := false, narrowed := true }
def EvalOrderUptoSaid : Prop := evalOrderUptoRow.holds Tryz.pinned (OpenSpec.upto evalOrderSpec)

/-- 'parquetrylaw11.EvalTwice', WHERE WHAT IT READS IS OF BULK AT MOST 1048576: true; the input reads as it did. -/
def evalTwiceUptoRow : OpenClaim := { program := "ytamplcfbkhlknaagreat", sum := "9db7efb44eaa232897a99ed378d1b93e41b8ac744247053f6a956ed90ff0f725", func := "parquetry/parquetrylaw11.EvalTwice", spec := "evalTwice", unfollowed := true, recurses := true, apart := false, narrowed := true }
def EvalTwiceUptoSaid : Prop := evalTwiceUptoRow.holds Tryz.pinned (OpenSpec.upto evalTwiceSpec)

end Rows
end Go.Proofs.YtamplcfbkhlknaaGreat
