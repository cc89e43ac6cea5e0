/-
  No cell of these rows narrows 'for every input' (looked for: loops, veiled, ifaces, maps, wideKeys, modest, calm, conditions, laid).
  DERIVED. THE GIVEN ROWS OF THIS SEAT. 8 by the template 'for every input the law returns true; each argument reads behind the call as it read before'; 0 by the template 'total and deterministic' (their statements: YtmjhjjdnmgakhaaGreatTotals.lean).
  GIVEN WITH THE SEED: the statements are not yours to turn. If you find one false, say at which input.
  Laid BY PROGRAM, IN A SANDBOX (cutbox-rows.mjs): the forced cells as the released guide's own fill.sh prints them over the translation a9db775a9da47092… (all of the seat's roots in one cut). By AI agents, Wed Nov 11 2026. No macro, syntax, notation, axiom, sorry.
-/
import Derived.Test.YtmjhjjdnmgakhaaGreatChecked
import GoSem.Claim
import GoSem.ClaimJoined
import GoSem.ClaimMapViews
import Derived.JoinedTies
import Derived.KernelRfl
namespace Go.Proofs.YtmjhjjdnmgakhaaGreat
/- THE CELL 'sum', in the pinned program and in every row, IS THE sha256 OF THE DUMP (.gsa) THAT YtmjhjjdnmgakhaaGreatProg.lean LOADS. Nothing in Lean hashes anything: it is a label: what it is worth is what the hold of that sum in a sandbox is worth. -/
noncomputable def Tryz.pinned : Pinned := { name := "ytmjhjjdnmgakhaagreat", sum := "a9db775a9da470926719fc219a09e9193486722c5045c8596afee75908283815", checked := Tryz.checked }
namespace Rows
def none {H : Type} : Left H := { results := [], args := [] }

/-- 'parquetrylaw10.GraphCopies': WHATEVER THE INPUT: true; the input reads as it did. -/
def graphCopiesSpec : ChangeSpec := { name := "graphCopies", fn := fun _ => fun
  | [d] => { results := [.lit (.bool true)], args := [d] }
  | _ => none }
def graphCopiesRow : OpenClaim := { program := "ytmjhjjdnmgakhaagreat", sum := "a9db775a9da470926719fc219a09e9193486722c5045c8596afee75908283815", func := "parquetry/parquetrylaw10.GraphCopies", spec := "graphCopies", unfollowed := true, recurses := true, plainKeys := false, apart := false }
def GraphCopiesSaid : Prop := graphCopiesRow.holds Tryz.pinned (OpenSpec.ofChange graphCopiesSpec)

/-- ITS FALSE NEIGHBOUR: 'it returns false'. Refute it at one input. -/
def graphCopiesWrong : ChangeSpec := { name := "graphCopies", fn := fun _ => fun
  | [d] => { results := [.lit (.bool false)], args := [d] }
  | _ => none }
def GraphCopiesWrongFalsely : Prop := graphCopiesRow.holds Tryz.pinned (OpenSpec.ofChange graphCopiesWrong)

/-- 'parquetrylaw22.SpreadNumbers': WHATEVER THE INPUT: true; the input reads as it did. -/
def spreadNumbersSpec : ChangeSpec := { name := "spreadNumbers", fn := fun _ => fun
  | [] => { results := [.lit (.bool true)], args := [] }
  | _ => none }
def spreadNumbersRow : OpenClaim := { program := "ytmjhjjdnmgakhaagreat", sum := "a9db775a9da470926719fc219a09e9193486722c5045c8596afee75908283815", func := "parquetry/parquetrylaw22.SpreadNumbers", spec := "spreadNumbers", unfollowed := true, recurses := true, plainKeys := false, apart := false }
def SpreadNumbersSaid : Prop := spreadNumbersRow.holds Tryz.pinned (OpenSpec.ofChange spreadNumbersSpec)

/-- ITS FALSE NEIGHBOUR: 'it returns false'. Refute it at one input. -/
def spreadNumbersWrong : ChangeSpec := { name := "spreadNumbers", fn := fun _ => fun
  | [] => { results := [.lit (.bool false)], args := [] }
  | _ => none }
def SpreadNumbersWrongFalsely : Prop := spreadNumbersRow.holds Tryz.pinned (OpenSpec.ofChange spreadNumbersWrong)

/-- 'parquetrylaw22.SpreadForced': WHATEVER THE INPUT: true; the input reads as it did. -/
def spreadForcedSpec : ChangeSpec := { name := "spreadForced", fn := fun _ => fun
  | [d] => { results := [.lit (.bool true)], args := [d] }
  | _ => none }
def spreadForcedRow : OpenClaim := { program := "ytmjhjjdnmgakhaagreat", sum := "a9db775a9da470926719fc219a09e9193486722c5045c8596afee75908283815", func := "parquetry/parquetrylaw22.SpreadForced", spec := "spreadForced", unfollowed := true, recurses := true, plainKeys := false, apart := false }
def SpreadForcedSaid : Prop := spreadForcedRow.holds Tryz.pinned (OpenSpec.ofChange spreadForcedSpec)

/-- ITS FALSE NEIGHBOUR: 'it returns false'. Refute it at one input. -/
def spreadForcedWrong : ChangeSpec := { name := "spreadForced", fn := fun _ => fun
  | [d] => { results := [.lit (.bool false)], args := [d] }
  | _ => none }
def SpreadForcedWrongFalsely : Prop := spreadForcedRow.holds Tryz.pinned (OpenSpec.ofChange spreadForcedWrong)

/-- 'parquetrylaw26.FairNumbers': WHATEVER THE INPUT: true; the input reads as it did. -/
def fairNumbersSpec : ChangeSpec := { name := "fairNumbers", fn := fun _ => fun
  | [] => { results := [.lit (.bool true)], args := [] }
  | _ => none }
def fairNumbersRow : OpenClaim := { program := "ytmjhjjdnmgakhaagreat", sum := "a9db775a9da470926719fc219a09e9193486722c5045c8596afee75908283815", func := "parquetry/parquetrylaw26.FairNumbers", spec := "fairNumbers", unfollowed := true, recurses := true, plainKeys := false, apart := false }
def FairNumbersSaid : Prop := fairNumbersRow.holds Tryz.pinned (OpenSpec.ofChange fairNumbersSpec)

/-- ITS FALSE NEIGHBOUR: 'it returns false'. Refute it at one input. -/
def fairNumbersWrong : ChangeSpec := { name := "fairNumbers", fn := fun _ => fun
  | [] => { results := [.lit (.bool false)], args := [] }
  | _ => none }
def FairNumbersWrongFalsely : Prop := fairNumbersRow.holds Tryz.pinned (OpenSpec.ofChange fairNumbersWrong)

/-- 'parquetrylaw26.FairRounds': WHATEVER THE INPUT: true; the input reads as it did. -/
def fairRoundsSpec : ChangeSpec := { name := "fairRounds", fn := fun _ => fun
  | [d1, d2, d3] => { results := [.lit (.bool true)], args := [d1, d2, d3] }
  | _ => none }
def fairRoundsRow : OpenClaim := { program := "ytmjhjjdnmgakhaagreat", sum := "a9db775a9da470926719fc219a09e9193486722c5045c8596afee75908283815", func := "parquetry/parquetrylaw26.FairRounds", spec := "fairRounds", unfollowed := true, recurses := true, plainKeys := false, apart := false }
def FairRoundsSaid : Prop := fairRoundsRow.holds Tryz.pinned (OpenSpec.ofChange fairRoundsSpec)

/-- ITS FALSE NEIGHBOUR: 'it returns false'. Refute it at one input. -/
def fairRoundsWrong : ChangeSpec := { name := "fairRounds", fn := fun _ => fun
  | [d1, d2, d3] => { results := [.lit (.bool false)], args := [d1, d2, d3] }
  | _ => none }
def FairRoundsWrongFalsely : Prop := fairRoundsRow.holds Tryz.pinned (OpenSpec.ofChange fairRoundsWrong)

/-- 'parquetrylaw20.MachineOrders': WHATEVER THE INPUT: true; the input reads as it did. -/
def machineOrdersSpec : ChangeSpec := { name := "machineOrders", fn := fun _ => fun
  | [d1, d2, d3] => { results := [.lit (.bool true)], args := [d1, d2, d3] }
  | _ => none }
def machineOrdersRow : OpenClaim := { program := "ytmjhjjdnmgakhaagreat", sum := "a9db775a9da470926719fc219a09e9193486722c5045c8596afee75908283815", func := "parquetry/parquetrylaw20.MachineOrders", spec := "machineOrders", unfollowed := true, recurses := true, plainKeys := false, apart := false }
def MachineOrdersSaid : Prop := machineOrdersRow.holds Tryz.pinned (OpenSpec.ofChange machineOrdersSpec)

/-- ITS FALSE NEIGHBOUR: 'it returns false'. Refute it at one input. -/
def machineOrdersWrong : ChangeSpec := { name := "machineOrders", fn := fun _ => fun
  | [d1, d2, d3] => { results := [.lit (.bool false)], args := [d1, d2, d3] }
  | _ => none }
def MachineOrdersWrongFalsely : Prop := machineOrdersRow.holds Tryz.pinned (OpenSpec.ofChange machineOrdersWrong)

/-- 'parquetrylaw20.MachineLives': WHATEVER THE INPUT: true; the input reads as it did. -/
def machineLivesSpec : ChangeSpec := { name := "machineLives", fn := fun _ => fun
  | [d1, d2] => { results := [.lit (.bool true)], args := [d1, d2] }
  | _ => none }
def machineLivesRow : OpenClaim := { program := "ytmjhjjdnmgakhaagreat", sum := "a9db775a9da470926719fc219a09e9193486722c5045c8596afee75908283815", func := "parquetry/parquetrylaw20.MachineLives", spec := "machineLives", unfollowed := true, recurses := true, plainKeys := false, apart := false }
def MachineLivesSaid : Prop := machineLivesRow.holds Tryz.pinned (OpenSpec.ofChange machineLivesSpec)

/-- ITS FALSE NEIGHBOUR: 'it returns false'. Refute it at one input. -/
def machineLivesWrong : ChangeSpec := { name := "machineLives", fn := fun _ => fun
  | [d1, d2] => { results := [.lit (.bool false)], args := [d1, d2] }
  | _ => none }
def MachineLivesWrongFalsely : Prop := machineLivesRow.holds Tryz.pinned (OpenSpec.ofChange machineLivesWrong)

/-- 'parquetrylaw20.MachineOnce': WHATEVER THE INPUT: true; the input reads as it did. -/
def machineOnceSpec : ChangeSpec := { name := "machineOnce", fn := fun _ => fun
  | [d1, d2] => { results := [.lit (.bool true)], args := [d1, d2] }
  | _ => none }
def machineOnceRow : OpenClaim := { program := "ytmjhjjdnmgakhaagreat", sum := "a9db775a9da470926719fc219a09e9193486722c5045c8596afee75908283815", func := "parquetry/parquetrylaw20.MachineOnce", spec := "machineOnce", unfollowed := true, recurses := true, plainKeys := false, apart := false }
def MachineOnceSaid : Prop := machineOnceRow.holds Tryz.pinned (OpenSpec.ofChange machineOnceSpec)

/-- ITS FALSE NEIGHBOUR: 'it returns false'. Refute it at one input. -/
def machineOnceWrong : ChangeSpec := { name := "machineOnce", fn := fun _ => fun
  | [d1, d2] => { results := [.lit (.bool false)], args := [d1, d2] }
  | _ => none }
def MachineOnceWrongFalsely : Prop := machineOnceRow.holds Tryz.pinned (OpenSpec.ofChange machineOnceWrong)

/- THE SECOND FORM. 'bulk': how many values and letters a reading holds, each counted each time it is reached (what is shared counts as often as it is met; a slice's spare places count too). A statement '..UptoSaid' is the law's where the arguments, and the package variables that the reading takes, are together of bulk at most 1048576: NARROWER than '..Said'. Prove '..Said' where nothing that the law and all that it calls make is longer than what came in: it says more and counts as full. Else prove '..UptoSaid'. A law counts once. -/
mutual
def uptoBulk {H : Type} : DataW H → Nat
  | .lit (.string bytes) => bytes.length + 1
  | .lit _ => 1
  | .nil => 1
  | .ptr d => uptoBulk d + 1
  | .slice elems spare => uptoBulkAll elems + uptoBulkAll spare + 1
  | .agg parts => uptoBulkAll parts + 1
  | .iface _ d => uptoBulk d + 1
  | .map entries => uptoBulkEntries entries + 1
  | .held _ => 1
def uptoBulkAll {H : Type} : List (DataW H) → Nat
  | [] => 0
  | d :: r => uptoBulk d + uptoBulkAll r
def uptoBulkEntries {H : Type} : List (Lit × DataW H) → Nat
  | [] => 0
  | x :: r => uptoBulkEntry x + uptoBulkEntries r
def uptoBulkEntry {H : Type} : Lit × DataW H → Nat
  | (.string bytes, d) => bytes.length + uptoBulk d + 1
  | (_, d) => uptoBulk d + 1
 end
def uptoSmall : (H : Type) → List (DataW H) → Bool := fun _ ds => decide (uptoBulkAll ds ≤ 1048576)
def OpenSpec.upto (s : _root_.Go.ChangeSpec) : _root_.Go.OpenSpec := { _root_.Go.OpenSpec.ofChange s with cond := some uptoSmall }

/-- 'parquetrylaw10.GraphCopies', WHERE WHAT IT READS IS OF BULK AT MOST 1048576: true; the input reads as it did. -/
def graphCopiesUptoRow : OpenClaim := { program := "ytmjhjjdnmgakhaagreat", sum := "a9db775a9da470926719fc219a09e9193486722c5045c8596afee75908283815", func := "parquetry/parquetrylaw10.GraphCopies", spec := "graphCopies", unfollowed := true, recurses := true, plainKeys := false, apart := false, narrowed := true }
def GraphCopiesUptoSaid : Prop := graphCopiesUptoRow.holds Tryz.pinned (OpenSpec.upto graphCopiesSpec)

/-- 'parquetrylaw22.SpreadNumbers', WHERE WHAT IT READS IS OF BULK AT MOST 1048576: true; the input reads as it did. -/
def spreadNumbersUptoRow : OpenClaim := { program := "ytmjhjjdnmgakhaagreat", sum := "a9db775a9da470926719fc219a09e9193486722c5045c8596afee75908283815", func := "parquetry/parquetrylaw22.SpreadNumbers", spec := "spreadNumbers", unfollowed := true, recurses := true, plainKeys := false, apart := false, narrowed := true }
def SpreadNumbersUptoSaid : Prop := spreadNumbersUptoRow.holds Tryz.pinned (OpenSpec.upto spreadNumbersSpec)

/-- 'parquetrylaw22.SpreadForced', WHERE WHAT IT READS IS OF BULK AT MOST 1048576: true; the input reads as it did. -/
def spreadForcedUptoRow : OpenClaim := { program := "ytmjhjjdnmgakhaagreat", sum := "a9db775a9da470926719fc219a09e9193486722c5045c8596afee75908283815", func := "parquetry/parquetrylaw22.SpreadForced", spec := "spreadForced", unfollowed := true, recurses := true, plainKeys := false, apart := false, narrowed := true }
def SpreadForcedUptoSaid : Prop := spreadForcedUptoRow.holds Tryz.pinned (OpenSpec.upto spreadForcedSpec)

/-- 'parquetrylaw26.FairNumbers', WHERE WHAT IT READS IS OF BULK AT MOST 1048576: true; the input reads as it did. -/
def fairNumbersUptoRow : OpenClaim := { program := "ytmjhjjdnmgakhaagreat", sum := "a9db775a9da470926719fc219a09e9193486722c5045c8596afee75908283815", func := "parquetry/parquetrylaw26.FairNumbers", spec := "fairNumbers", unfollowed := true, recurses := true, plainKeys := false, apart := false, narrowed := true }
def FairNumbersUptoSaid : Prop := fairNumbersUptoRow.holds Tryz.pinned (OpenSpec.upto fairNumbersSpec)

/-- 'parquetrylaw26.FairRounds', WHERE WHAT IT READS IS OF BULK AT MOST 1048576: true; the input reads as it did. -/
def fairRoundsUptoRow : OpenClaim := { program := "ytmjhjjdnmgakhaagreat", sum := "a9db775a9da470926719fc219a09e9193486722c5045c8596afee75908283815", func := "parquetry/parquetrylaw26.FairRounds", spec := "fairRounds", unfollowed := true, recurses := true, plainKeys := false, apart := false, narrowed := true }
def FairRoundsUptoSaid : Prop := fairRoundsUptoRow.holds Tryz.pinned (OpenSpec.upto fairRoundsSpec)

/-- 'parquetrylaw20.MachineOrders', WHERE WHAT IT READS IS OF BULK AT MOST 1048576: true; the input reads as it did. -/
def machineOrdersUptoRow : OpenClaim := { program := "ytmjhjjdnmgakhaagreat", sum := "a9db775a9da470926719fc219a09e9193486722c5045c8596afee75908283815", func := "parquetry/parquetrylaw20.MachineOrders", spec := "machineOrders", unfollowed := true, recurses := true, plainKeys := false, apart := false, narrowed := true }
def MachineOrdersUptoSaid : Prop := machineOrdersUptoRow.holds Tryz.pinned (OpenSpec.upto machineOrdersSpec)

/-- 'parquetrylaw20.MachineLives', WHERE WHAT IT READS IS OF BULK AT MOST 1048576: true; the input reads as it did. -/
def machineLivesUptoRow : OpenClaim := { program := "ytmjhjjdnmgakhaagreat", sum := "a9db775a9da470926719fc219a09e9193486722c5045c8596afee75908283815", func := "parquetry/parquetrylaw20.MachineLives", spec := "machineLives", unfollowed := true, recurses := true, plainKeys := false, apart := false, narrowed := true }
def MachineLivesUptoSaid : Prop := machineLivesUptoRow.holds Tryz.pinned (OpenSpec.upto machineLivesSpec)

/-- 'parquetrylaw20.MachineOnce', WHERE WHAT IT READS IS OF BULK AT MOST 1048576: true; the input reads as it did. -/
def machineOnceUptoRow : OpenClaim := { program := "ytmjhjjdnmgakhaagreat", sum := "a9db775a9da470926719fc219a09e9193486722c5045c8596afee75908283815", func := "parquetry/parquetrylaw20.MachineOnce", spec := "machineOnce", unfollowed := true, recurses := true, plainKeys := false, apart := false, narrowed := true }
def MachineOnceUptoSaid : Prop := machineOnceUptoRow.holds Tryz.pinned (OpenSpec.upto machineOnceSpec)

end Rows
end Go.Proofs.YtmjhjjdnmgakhaaGreat
