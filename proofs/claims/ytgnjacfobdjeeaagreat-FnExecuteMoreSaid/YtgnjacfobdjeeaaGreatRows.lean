/-
  No cell of these rows narrows 'for every input' (looked for: loops, veiled, ifaces, maps, wideKeys, modest, calm, conditions, laid).
  DERIVED. THE GIVEN ROWS OF THIS SEAT. 5 by the template 'for every input the law returns true; each argument reads behind the call as it read before'; 0 by the template 'total and deterministic' (their statements: YtgnjacfobdjeeaaGreatTotals.lean).
  GIVEN WITH THE SEED: the statements are not yours to turn. If you find one false, say at which input.
  Laid BY PROGRAM, IN A SANDBOX (cutbox-rows.mjs): the forced cells as the released guide's own fill.sh prints them over the translation acfee15c3ace3a78… (all of the seat's roots in one cut). By AI agents, Wed Nov 11 2026. No macro, syntax, notation, axiom, sorry.
-/
import Derived.Test.YtgnjacfobdjeeaaGreatChecked
import GoSem.Claim
import GoSem.ClaimJoined
import GoSem.ClaimMapViews
import Derived.JoinedTies
import Derived.KernelRfl
namespace Go.Proofs.YtgnjacfobdjeeaaGreat
/- THE CELL 'sum', in the pinned program and in every row, IS THE sha256 OF THE DUMP (.gsa) THAT YtgnjacfobdjeeaaGreatProg.lean LOADS. Nothing in Lean hashes anything: it is a label: what it is worth is what the hold of that sum in a sandbox is worth. -/
noncomputable def Tryz.pinned : Pinned := { name := "ytgnjacfobdjeeaagreat", sum := "acfee15c3ace3a787916621a28fbacc48c88ea1fba9fd645f55c7d5eb40c7537", checked := Tryz.checked }
namespace Rows
def none {H : Type} : Left H := { results := [], args := [] }

/-- 'laws.FnExecuteMore': WHATEVER THE INPUT: true; the input reads as it did. -/
def fnExecuteMoreSpec : ChangeSpec := { name := "fnExecuteMore", fn := fun _ => fun
  | [d] => { results := [.lit (.bool true)], args := [d] }
  | _ => none }
def fnExecuteMoreRow : OpenClaim := { program := "ytgnjacfobdjeeaagreat", sum := "acfee15c3ace3a787916621a28fbacc48c88ea1fba9fd645f55c7d5eb40c7537", func := "loop.example/refcountml/laws.FnExecuteMore", spec := "fnExecuteMore", unfollowed := true, recurses := true, apart := false }
def FnExecuteMoreSaid : Prop := fnExecuteMoreRow.holds Tryz.pinned (OpenSpec.ofChange fnExecuteMoreSpec)

/-- ITS FALSE NEIGHBOUR: 'it returns false'. Refute it at one input. -/
def fnExecuteMoreWrong : ChangeSpec := { name := "fnExecuteMore", fn := fun _ => fun
  | [d] => { results := [.lit (.bool false)], args := [d] }
  | _ => none }
def FnExecuteMoreWrongFalsely : Prop := fnExecuteMoreRow.holds Tryz.pinned (OpenSpec.ofChange fnExecuteMoreWrong)

/-- 'laws.FnOwnedCells': WHATEVER THE INPUT: true; the input reads as it did. -/
def fnOwnedCellsSpec : ChangeSpec := { name := "fnOwnedCells", fn := fun _ => fun
  | [d] => { results := [.lit (.bool true)], args := [d] }
  | _ => none }
def fnOwnedCellsRow : OpenClaim := { program := "ytgnjacfobdjeeaagreat", sum := "acfee15c3ace3a787916621a28fbacc48c88ea1fba9fd645f55c7d5eb40c7537", func := "loop.example/refcountml/laws.FnOwnedCells", spec := "fnOwnedCells", unfollowed := true, recurses := true, apart := false }
def FnOwnedCellsSaid : Prop := fnOwnedCellsRow.holds Tryz.pinned (OpenSpec.ofChange fnOwnedCellsSpec)

/-- ITS FALSE NEIGHBOUR: 'it returns false'. Refute it at one input. -/
def fnOwnedCellsWrong : ChangeSpec := { name := "fnOwnedCells", fn := fun _ => fun
  | [d] => { results := [.lit (.bool false)], args := [d] }
  | _ => none }
def FnOwnedCellsWrongFalsely : Prop := fnOwnedCellsRow.holds Tryz.pinned (OpenSpec.ofChange fnOwnedCellsWrong)

/-- 'laws.FnStatsOfPeak': WHATEVER THE INPUT: true; the input reads as it did. -/
def fnStatsOfPeakSpec : ChangeSpec := { name := "fnStatsOfPeak", fn := fun _ => fun
  | [d] => { results := [.lit (.bool true)], args := [d] }
  | _ => none }
def fnStatsOfPeakRow : OpenClaim := { program := "ytgnjacfobdjeeaagreat", sum := "acfee15c3ace3a787916621a28fbacc48c88ea1fba9fd645f55c7d5eb40c7537", func := "loop.example/refcountml/laws.FnStatsOfPeak", spec := "fnStatsOfPeak", unfollowed := true, recurses := true, apart := false }
def FnStatsOfPeakSaid : Prop := fnStatsOfPeakRow.holds Tryz.pinned (OpenSpec.ofChange fnStatsOfPeakSpec)

/-- ITS FALSE NEIGHBOUR: 'it returns false'. Refute it at one input. -/
def fnStatsOfPeakWrong : ChangeSpec := { name := "fnStatsOfPeak", fn := fun _ => fun
  | [d] => { results := [.lit (.bool false)], args := [d] }
  | _ => none }
def FnStatsOfPeakWrongFalsely : Prop := fnStatsOfPeakRow.holds Tryz.pinned (OpenSpec.ofChange fnStatsOfPeakWrong)

/-- 'laws.FnExecute': WHATEVER THE INPUT: true; the input reads as it did. -/
def fnExecuteSpec : ChangeSpec := { name := "fnExecute", fn := fun _ => fun
  | [d] => { results := [.lit (.bool true)], args := [d] }
  | _ => none }
def fnExecuteRow : OpenClaim := { program := "ytgnjacfobdjeeaagreat", sum := "acfee15c3ace3a787916621a28fbacc48c88ea1fba9fd645f55c7d5eb40c7537", func := "loop.example/refcountml/laws.FnExecute", spec := "fnExecute", unfollowed := true, recurses := true, apart := false }
def FnExecuteSaid : Prop := fnExecuteRow.holds Tryz.pinned (OpenSpec.ofChange fnExecuteSpec)

/-- ITS FALSE NEIGHBOUR: 'it returns false'. Refute it at one input. -/
def fnExecuteWrong : ChangeSpec := { name := "fnExecute", fn := fun _ => fun
  | [d] => { results := [.lit (.bool false)], args := [d] }
  | _ => none }
def FnExecuteWrongFalsely : Prop := fnExecuteRow.holds Tryz.pinned (OpenSpec.ofChange fnExecuteWrong)

/-- 'laws.FnExecuteEmpty': WHATEVER THE INPUT: true; the input reads as it did. -/
def fnExecuteEmptySpec : ChangeSpec := { name := "fnExecuteEmpty", fn := fun _ => fun
  | [d] => { results := [.lit (.bool true)], args := [d] }
  | _ => none }
def fnExecuteEmptyRow : OpenClaim := { program := "ytgnjacfobdjeeaagreat", sum := "acfee15c3ace3a787916621a28fbacc48c88ea1fba9fd645f55c7d5eb40c7537", func := "loop.example/refcountml/laws.FnExecuteEmpty", spec := "fnExecuteEmpty", unfollowed := true, recurses := true, apart := false }
def FnExecuteEmptySaid : Prop := fnExecuteEmptyRow.holds Tryz.pinned (OpenSpec.ofChange fnExecuteEmptySpec)

/-- ITS FALSE NEIGHBOUR: 'it returns false'. Refute it at one input. -/
def fnExecuteEmptyWrong : ChangeSpec := { name := "fnExecuteEmpty", fn := fun _ => fun
  | [d] => { results := [.lit (.bool false)], args := [d] }
  | _ => none }
def FnExecuteEmptyWrongFalsely : Prop := fnExecuteEmptyRow.holds Tryz.pinned (OpenSpec.ofChange fnExecuteEmptyWrong)

/- THE SECOND FORM. 'bulk': how many values and letters a reading holds, each counted each time it is reached (what is shared counts as often as it is met; a slice's spare places count too). A statement '..UptoSaid' is the law's where the arguments, and the package variables that the reading takes, are together of bulk at most 1048576: NARROWER than '..Said'. Prove '..Said' where nothing that the law and all that it calls make is longer than what came in: it says more and counts as full. Else prove '..UptoSaid'. A law counts once. -/
mutual
def uptoBulk {H : Type} : DataW H → Nat
  | .lit (.string bytes) => bytes.length + 1
  | .lit _ => 1
  | .nil => 1
  | .ptr d => uptoBulk d + 1
  | .slice elems spare => uptoBulkAll elems + uptoBulkAll spare + 1
  | .agg parts => uptoBulkAll parts + 1
  | .iface _ d => uptoBulk d + 1
  | .map entries => uptoBulkEntries entries + 1
  | .held _ => 1
def uptoBulkAll {H : Type} : List (DataW H) → Nat
  | [] => 0
  | d :: r => uptoBulk d + uptoBulkAll r
def uptoBulkEntries {H : Type} : List (Lit × DataW H) → Nat
  | [] => 0
  | x :: r => uptoBulkEntry x + uptoBulkEntries r
def uptoBulkEntry {H : Type} : Lit × DataW H → Nat
  | (.string bytes, d) => bytes.length + uptoBulk d + 1
  | (_, d) => uptoBulk d + 1
 end
def uptoSmall : (H : Type) → List (DataW H) → Bool := fun _ ds => decide (uptoBulkAll ds ≤ 1048576)
def OpenSpec.upto (s : _root_.Go.ChangeSpec) : _root_.Go.OpenSpec := { _root_.Go.OpenSpec.ofChange s with cond := some uptoSmall }

/-- 'laws.FnExecuteMore', WHERE WHAT IT READS IS OF BULK AT MOST 1048576: true; the input reads as it did. -/
def fnExecuteMoreUptoRow : OpenClaim := { program := "ytgnjacfobdjeeaagreat", sum := "acfee15c3ace3a787916621a28fbacc48c88ea1fba9fd645f55c7d5eb40c7537", func := "loop.example/refcountml/laws.FnExecuteMore", spec := "fnExecuteMore", unfollowed := true, recurses := true, apart := false, narrowed := true }
def FnExecuteMoreUptoSaid : Prop := fnExecuteMoreUptoRow.holds Tryz.pinned (OpenSpec.upto fnExecuteMoreSpec)

/-- 'laws.FnOwnedCells', WHERE WHAT IT READS IS OF BULK AT MOST 1048576: true; the input reads as it did. -/
def fnOwnedCellsUptoRow : OpenClaim := { program := "ytgnjacfobdjeeaagreat", sum := "acfee15c3ace3a787916621a28fbacc48c88ea1fba9fd645f55c7d5eb40c7537", func := "loop.example/refcountml/laws.FnOwnedCells", spec := "fnOwnedCells", unfollowed := true, recurses := true, apart := false, narrowed := true }
def FnOwnedCellsUptoSaid : Prop := fnOwnedCellsUptoRow.holds Tryz.pinned (OpenSpec.upto fnOwnedCellsSpec)

/-- 'laws.FnStatsOfPeak', WHERE WHAT IT READS IS OF BULK AT MOST 1048576: true; the input reads as it did. -/
def fnStatsOfPeakUptoRow : OpenClaim := { program := "ytgnjacfobdjeeaagreat", sum := "acfee15c3ace3a787916621a28fbacc48c88ea1fba9fd645f55c7d5eb40c7537", func := "loop.example/refcountml/laws.FnStatsOfPeak", spec := "fnStatsOfPeak", unfollowed := true, recurses := true, apart := false, narrowed := true }
def FnStatsOfPeakUptoSaid : Prop := fnStatsOfPeakUptoRow.holds Tryz.pinned (OpenSpec.upto fnStatsOfPeakSpec)

/-- 'laws.FnExecute', WHERE WHAT IT READS IS OF BULK AT MOST 1048576: true; the input reads as it did. -/
def fnExecuteUptoRow : OpenClaim := { program := "ytgnjacfobdjeeaagreat", sum := "acfee15c3ace3a787916621a28fbacc48c88ea1fba9fd645f55c7d5eb40c7537", func := "loop.example/refcountml/laws.FnExecute", spec := "fnExecute", unfollowed := true, recurses := true, apart := false, narrowed := true }
def FnExecuteUptoSaid : Prop := fnExecuteUptoRow.holds Tryz.pinned (OpenSpec.upto fnExecuteSpec)

/-- 'laws.FnExecuteEmpty', WHERE WHAT IT READS IS OF BULK AT MOST 1048576: true; the input reads as it did. -/
def fnExecuteEmptyUptoRow : OpenClaim := { program := "ytgnjacfobdjeeaagreat", sum := "acfee15c3ace3a787916621a28fbacc48c88ea1fba9fd645f55c7d5eb40c7537", func := "loop.example/refcountml/laws.FnExecuteEmpty", spec := "fnExecuteEmpty", unfollowed := true, recurses := true, apart := false, narrowed := true }
def FnExecuteEmptyUptoSaid : Prop := fnExecuteEmptyUptoRow.holds Tryz.pinned (OpenSpec.upto fnExecuteEmptySpec)

end Rows
end Go.Proofs.YtgnjacfobdjeeaaGreat
