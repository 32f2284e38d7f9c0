/-
  No cell of these rows narrows 'for every input' (looked for: loops, veiled, ifaces, maps, wideKeys, modest, calm, conditions, laid).
  DERIVED. THE GIVEN ROWS OF THIS SEAT. 9 by the template 'for every input the law returns true; each argument reads behind the call as it read before'; 0 by the template 'total and deterministic' (their statements: YtkoifinbblcbiaaGreatTotals.lean).
  GIVEN WITH THE SEED: the statements are not yours to turn. If you find one false, say at which input.
  Laid BY PROGRAM, IN A SANDBOX (cutbox-rows.mjs): the forced cells as the released guide's own fill.sh prints them over the translation acddf176628d7dcf… (all of the seat's roots in one cut). By AI agents, Wed Nov 11 2026. No macro, syntax, notation, axiom, sorry.
-/
import Derived.Test.YtkoifinbblcbiaaGreatChecked
import GoSem.Claim
import GoSem.ClaimJoined
import GoSem.ClaimMapViews
import Derived.JoinedTies
import Derived.KernelRfl
namespace Go.Proofs.YtkoifinbblcbiaaGreat
/- THE CELL 'sum', in the pinned program and in every row, IS THE sha256 OF THE DUMP (.gsa) THAT YtkoifinbblcbiaaGreatProg.lean LOADS. Nothing in Lean hashes anything: it is a label: what it is worth is what the hold of that sum in a sandbox is worth. -/
noncomputable def Tryz.pinned : Pinned := { name := "ytkoifinbblcbiaagreat", sum := "acddf176628d7dcf3d56decd1095f48a899f825b047ba60e6b71132736cb53df", checked := Tryz.checked }
namespace Rows
def none {H : Type} : Left H := { results := [], args := [] }

/-- 'laws.FnStepStateDup': WHATEVER THE INPUT: true; the input reads as it did. -/
def fnStepStateDupSpec : ChangeSpec := { name := "fnStepStateDup", fn := fun _ => fun
  | [d] => { results := [.lit (.bool true)], args := [d] }
  | _ => none }
def fnStepStateDupRow : OpenClaim := { program := "ytkoifinbblcbiaagreat", sum := "acddf176628d7dcf3d56decd1095f48a899f825b047ba60e6b71132736cb53df", func := "loop.example/refcountml/laws.FnStepStateDup", spec := "fnStepStateDup", unfollowed := true, recurses := true, apart := false }
def FnStepStateDupSaid : Prop := fnStepStateDupRow.holds Tryz.pinned (OpenSpec.ofChange fnStepStateDupSpec)

/-- ITS FALSE NEIGHBOUR: 'it returns false'. Refute it at one input. -/
def fnStepStateDupWrong : ChangeSpec := { name := "fnStepStateDup", fn := fun _ => fun
  | [d] => { results := [.lit (.bool false)], args := [d] }
  | _ => none }
def FnStepStateDupWrongFalsely : Prop := fnStepStateDupRow.holds Tryz.pinned (OpenSpec.ofChange fnStepStateDupWrong)

/-- 'laws.FnStepStateFrames': WHATEVER THE INPUT: true; the input reads as it did. -/
def fnStepStateFramesSpec : ChangeSpec := { name := "fnStepStateFrames", fn := fun _ => fun
  | [d] => { results := [.lit (.bool true)], args := [d] }
  | _ => none }
def fnStepStateFramesRow : OpenClaim := { program := "ytkoifinbblcbiaagreat", sum := "acddf176628d7dcf3d56decd1095f48a899f825b047ba60e6b71132736cb53df", func := "loop.example/refcountml/laws.FnStepStateFrames", spec := "fnStepStateFrames", unfollowed := true, recurses := true, apart := false }
def FnStepStateFramesSaid : Prop := fnStepStateFramesRow.holds Tryz.pinned (OpenSpec.ofChange fnStepStateFramesSpec)

/-- ITS FALSE NEIGHBOUR: 'it returns false'. Refute it at one input. -/
def fnStepStateFramesWrong : ChangeSpec := { name := "fnStepStateFrames", fn := fun _ => fun
  | [d] => { results := [.lit (.bool false)], args := [d] }
  | _ => none }
def FnStepStateFramesWrongFalsely : Prop := fnStepStateFramesRow.holds Tryz.pinned (OpenSpec.ofChange fnStepStateFramesWrong)

/-- 'laws.FnStepStateInto': WHATEVER THE INPUT: true; the input reads as it did. -/
def fnStepStateIntoSpec : ChangeSpec := { name := "fnStepStateInto", fn := fun _ => fun
  | [d] => { results := [.lit (.bool true)], args := [d] }
  | _ => none }
def fnStepStateIntoRow : OpenClaim := { program := "ytkoifinbblcbiaagreat", sum := "acddf176628d7dcf3d56decd1095f48a899f825b047ba60e6b71132736cb53df", func := "loop.example/refcountml/laws.FnStepStateInto", spec := "fnStepStateInto", unfollowed := true, recurses := true, apart := false }
def FnStepStateIntoSaid : Prop := fnStepStateIntoRow.holds Tryz.pinned (OpenSpec.ofChange fnStepStateIntoSpec)

/-- ITS FALSE NEIGHBOUR: 'it returns false'. Refute it at one input. -/
def fnStepStateIntoWrong : ChangeSpec := { name := "fnStepStateInto", fn := fun _ => fun
  | [d] => { results := [.lit (.bool false)], args := [d] }
  | _ => none }
def FnStepStateIntoWrongFalsely : Prop := fnStepStateIntoRow.holds Tryz.pinned (OpenSpec.ofChange fnStepStateIntoWrong)

/-- 'laws.FnStepStateStop': WHATEVER THE INPUT: true; the input reads as it did. -/
def fnStepStateStopSpec : ChangeSpec := { name := "fnStepStateStop", fn := fun _ => fun
  | [d] => { results := [.lit (.bool true)], args := [d] }
  | _ => none }
def fnStepStateStopRow : OpenClaim := { program := "ytkoifinbblcbiaagreat", sum := "acddf176628d7dcf3d56decd1095f48a899f825b047ba60e6b71132736cb53df", func := "loop.example/refcountml/laws.FnStepStateStop", spec := "fnStepStateStop", unfollowed := true, recurses := true, apart := false }
def FnStepStateStopSaid : Prop := fnStepStateStopRow.holds Tryz.pinned (OpenSpec.ofChange fnStepStateStopSpec)

/-- ITS FALSE NEIGHBOUR: 'it returns false'. Refute it at one input. -/
def fnStepStateStopWrong : ChangeSpec := { name := "fnStepStateStop", fn := fun _ => fun
  | [d] => { results := [.lit (.bool false)], args := [d] }
  | _ => none }
def FnStepStateStopWrongFalsely : Prop := fnStepStateStopRow.holds Tryz.pinned (OpenSpec.ofChange fnStepStateStopWrong)

/-- 'laws.FnRunState': WHATEVER THE INPUT: true; the input reads as it did. -/
def fnRunStateSpec : ChangeSpec := { name := "fnRunState", fn := fun _ => fun
  | [d] => { results := [.lit (.bool true)], args := [d] }
  | _ => none }
def fnRunStateRow : OpenClaim := { program := "ytkoifinbblcbiaagreat", sum := "acddf176628d7dcf3d56decd1095f48a899f825b047ba60e6b71132736cb53df", func := "loop.example/refcountml/laws.FnRunState", spec := "fnRunState", unfollowed := true, recurses := true, apart := false }
def FnRunStateSaid : Prop := fnRunStateRow.holds Tryz.pinned (OpenSpec.ofChange fnRunStateSpec)

/-- ITS FALSE NEIGHBOUR: 'it returns false'. Refute it at one input. -/
def fnRunStateWrong : ChangeSpec := { name := "fnRunState", fn := fun _ => fun
  | [d] => { results := [.lit (.bool false)], args := [d] }
  | _ => none }
def FnRunStateWrongFalsely : Prop := fnRunStateRow.holds Tryz.pinned (OpenSpec.ofChange fnRunStateWrong)

/-- 'laws.FnRunStateOne': WHATEVER THE INPUT: true; the input reads as it did. -/
def fnRunStateOneSpec : ChangeSpec := { name := "fnRunStateOne", fn := fun _ => fun
  | [d] => { results := [.lit (.bool true)], args := [d] }
  | _ => none }
def fnRunStateOneRow : OpenClaim := { program := "ytkoifinbblcbiaagreat", sum := "acddf176628d7dcf3d56decd1095f48a899f825b047ba60e6b71132736cb53df", func := "loop.example/refcountml/laws.FnRunStateOne", spec := "fnRunStateOne", unfollowed := true, recurses := true, apart := false }
def FnRunStateOneSaid : Prop := fnRunStateOneRow.holds Tryz.pinned (OpenSpec.ofChange fnRunStateOneSpec)

/-- ITS FALSE NEIGHBOUR: 'it returns false'. Refute it at one input. -/
def fnRunStateOneWrong : ChangeSpec := { name := "fnRunStateOne", fn := fun _ => fun
  | [d] => { results := [.lit (.bool false)], args := [d] }
  | _ => none }
def FnRunStateOneWrongFalsely : Prop := fnRunStateOneRow.holds Tryz.pinned (OpenSpec.ofChange fnRunStateOneWrong)

/-- 'laws.FnStepStateSmall': WHATEVER THE INPUT: true; the input reads as it did. -/
def fnStepStateSmallSpec : ChangeSpec := { name := "fnStepStateSmall", fn := fun _ => fun
  | [d] => { results := [.lit (.bool true)], args := [d] }
  | _ => none }
def fnStepStateSmallRow : OpenClaim := { program := "ytkoifinbblcbiaagreat", sum := "acddf176628d7dcf3d56decd1095f48a899f825b047ba60e6b71132736cb53df", func := "loop.example/refcountml/laws.FnStepStateSmall", spec := "fnStepStateSmall", unfollowed := true, recurses := true, apart := false }
def FnStepStateSmallSaid : Prop := fnStepStateSmallRow.holds Tryz.pinned (OpenSpec.ofChange fnStepStateSmallSpec)

/-- ITS FALSE NEIGHBOUR: 'it returns false'. Refute it at one input. -/
def fnStepStateSmallWrong : ChangeSpec := { name := "fnStepStateSmall", fn := fun _ => fun
  | [d] => { results := [.lit (.bool false)], args := [d] }
  | _ => none }
def FnStepStateSmallWrongFalsely : Prop := fnStepStateSmallRow.holds Tryz.pinned (OpenSpec.ofChange fnStepStateSmallWrong)

/-- 'laws.FnStatsOf': WHATEVER THE INPUT: true; the input reads as it did. -/
def fnStatsOfSpec : ChangeSpec := { name := "fnStatsOf", fn := fun _ => fun
  | [d] => { results := [.lit (.bool true)], args := [d] }
  | _ => none }
def fnStatsOfRow : OpenClaim := { program := "ytkoifinbblcbiaagreat", sum := "acddf176628d7dcf3d56decd1095f48a899f825b047ba60e6b71132736cb53df", func := "loop.example/refcountml/laws.FnStatsOf", spec := "fnStatsOf", unfollowed := true, recurses := true, apart := false }
def FnStatsOfSaid : Prop := fnStatsOfRow.holds Tryz.pinned (OpenSpec.ofChange fnStatsOfSpec)

/-- ITS FALSE NEIGHBOUR: 'it returns false'. Refute it at one input. -/
def fnStatsOfWrong : ChangeSpec := { name := "fnStatsOf", fn := fun _ => fun
  | [d] => { results := [.lit (.bool false)], args := [d] }
  | _ => none }
def FnStatsOfWrongFalsely : Prop := fnStatsOfRow.holds Tryz.pinned (OpenSpec.ofChange fnStatsOfWrong)

/-- 'laws.FnStatsOfState': WHATEVER THE INPUT: true; the input reads as it did. -/
def fnStatsOfStateSpec : ChangeSpec := { name := "fnStatsOfState", fn := fun _ => fun
  | [d] => { results := [.lit (.bool true)], args := [d] }
  | _ => none }
def fnStatsOfStateRow : OpenClaim := { program := "ytkoifinbblcbiaagreat", sum := "acddf176628d7dcf3d56decd1095f48a899f825b047ba60e6b71132736cb53df", func := "loop.example/refcountml/laws.FnStatsOfState", spec := "fnStatsOfState", unfollowed := true, recurses := true, apart := false }
def FnStatsOfStateSaid : Prop := fnStatsOfStateRow.holds Tryz.pinned (OpenSpec.ofChange fnStatsOfStateSpec)

/-- ITS FALSE NEIGHBOUR: 'it returns false'. Refute it at one input. -/
def fnStatsOfStateWrong : ChangeSpec := { name := "fnStatsOfState", fn := fun _ => fun
  | [d] => { results := [.lit (.bool false)], args := [d] }
  | _ => none }
def FnStatsOfStateWrongFalsely : Prop := fnStatsOfStateRow.holds Tryz.pinned (OpenSpec.ofChange fnStatsOfStateWrong)

/- THE SECOND FORM. 'bulk': how many values and letters a reading holds, each counted each time it is reached (what is shared counts as often as it is met; a slice's spare places count too). A statement '..UptoSaid' is the law's where the arguments, and the package variables that the reading takes, are together of bulk at most 1048576: NARROWER than '..Said'. Prove '..Said' where nothing that the law and all that it calls make is longer than what came in: it says more and counts as full. Else prove '..UptoSaid'. A law counts once. -/
mutual
def uptoBulk {H : Type} : DataW H → Nat
  | .lit (.string bytes) => bytes.length + 1
  | .lit _ => 1
  | .nil => 1
  | .ptr d => uptoBulk d + 1
  | .slice elems spare => uptoBulkAll elems + uptoBulkAll spare + 1
  | .agg parts => uptoBulkAll parts + 1
  | .iface _ d => uptoBulk d + 1
  | .map entries => uptoBulkEntries entries + 1
  | .held _ => 1
def uptoBulkAll {H : Type} : List (DataW H) → Nat
  | [] => 0
  | d :: r => uptoBulk d + uptoBulkAll r
def uptoBulkEntries {H : Type} : List (Lit × DataW H) → Nat
  | [] => 0
  | x :: r => uptoBulkEntry x + uptoBulkEntries r
def uptoBulkEntry {H : Type} : Lit × DataW H → Nat
  | (.string bytes, d) => bytes.length + uptoBulk d + 1
  | (_, d) => uptoBulk d + 1
 end
def uptoSmall : (H : Type) → List (DataW H) → Bool := fun _ ds => decide (uptoBulkAll ds ≤ 1048576)
def OpenSpec.upto (s : _root_.Go.ChangeSpec) : _root_.Go.OpenSpec := { _root_.Go.OpenSpec.ofChange s with cond := some uptoSmall }

/-- 'laws.FnStepStateDup', WHERE WHAT IT READS IS OF BULK AT MOST 1048576: true; the input reads as it did. -/
def fnStepStateDupUptoRow : OpenClaim := { program := "ytkoifinbblcbiaagreat", sum := "acddf176628d7dcf3d56decd1095f48a899f825b047ba60e6b71132736cb53df", func := "loop.example/refcountml/laws.FnStepStateDup", spec := "fnStepStateDup", unfollowed := true, recurses := true, apart := false, narrowed := true }
def FnStepStateDupUptoSaid : Prop := fnStepStateDupUptoRow.holds Tryz.pinned (OpenSpec.upto fnStepStateDupSpec)

/-- 'laws.FnStepStateFrames', WHERE WHAT IT READS IS OF BULK AT MOST 1048576: true; the input reads as it did. -/
def fnStepStateFramesUptoRow : OpenClaim := { program := "ytkoifinbblcbiaagreat", sum := "acddf176628d7dcf3d56decd1095f48a899f825b047ba60e6b71132736cb53df", func := "loop.example/refcountml/laws.FnStepStateFrames", spec := "fnStepStateFrames", unfollowed := true, recurses := true, apart := false, narrowed := true }
def FnStepStateFramesUptoSaid : Prop := fnStepStateFramesUptoRow.holds Tryz.pinned (OpenSpec.upto fnStepStateFramesSpec)

/-- 'laws.FnStepStateInto', WHERE WHAT IT READS IS OF BULK AT MOST 1048576: true; the input reads as it did. -/
def fnStepStateIntoUptoRow : OpenClaim := { program := "ytkoifinbblcbiaagreat", sum := "acddf176628d7dcf3d56decd1095f48a899f825b047ba60e6b71132736cb53df", func := "loop.example/refcountml/laws.FnStepStateInto", spec := "fnStepStateInto", unfollowed := true, recurses := true, apart := false, narrowed := true }
def FnStepStateIntoUptoSaid : Prop := fnStepStateIntoUptoRow.holds Tryz.pinned (OpenSpec.upto fnStepStateIntoSpec)

/-- 'laws.FnStepStateStop', WHERE WHAT IT READS IS OF BULK AT MOST 1048576: true; the input reads as it did. -/
def fnStepStateStopUptoRow : OpenClaim := { program := "ytkoifinbblcbiaagreat", sum := "acddf176628d7dcf3d56decd1095f48a899f825b047ba60e6b71132736cb53df", func := "loop.example/refcountml/laws.FnStepStateStop", spec := "fnStepStateStop", unfollowed := true, recurses := true, apart := false, narrowed := true }
def FnStepStateStopUptoSaid : Prop := fnStepStateStopUptoRow.holds Tryz.pinned (OpenSpec.upto fnStepStateStopSpec)

/-- 'laws.FnRunState', WHERE WHAT IT READS IS OF BULK AT MOST 1048576: true; the input reads as it did. -/
def fnRunStateUptoRow : OpenClaim := { program := "ytkoifinbblcbiaagreat", sum := "acddf176628d7dcf3d56decd1095f48a899f825b047ba60e6b71132736cb53df", func := "loop.example/refcountml/laws.FnRunState", spec := "fnRunState", unfollowed := true, recurses := true, apart := false, narrowed := true }
def FnRunStateUptoSaid : Prop := fnRunStateUptoRow.holds Tryz.pinned (OpenSpec.upto fnRunStateSpec)

/-- 'laws.FnRunStateOne', WHERE WHAT IT READS IS OF BULK AT MOST 1048576: true; the input reads as it did. -/
def fnRunStateOneUptoRow : OpenClaim := { program := "ytkoifinbblcbiaagreat", sum := "acddf176628d7dcf3d56decd1095f48a899f825b047ba60e6b71132736cb53df", func := "loop.example/refcountml/laws.FnRunStateOne", spec := "fnRunStateOne", unfollowed := true, recurses := true, apart := false, narrowed := true }
def FnRunStateOneUptoSaid : Prop := fnRunStateOneUptoRow.holds Tryz.pinned (OpenSpec.upto fnRunStateOneSpec)

/-- 'laws.FnStepStateSmall', WHERE WHAT IT READS IS OF BULK AT MOST 1048576: true; the input reads as it did. -/
def fnStepStateSmallUptoRow : OpenClaim := { program := "ytkoifinbblcbiaagreat", sum := "acddf176628d7dcf3d56decd1095f48a899f825b047ba60e6b71132736cb53df", func := "loop.example/refcountml/laws.FnStepStateSmall", spec := "fnStepStateSmall", unfollowed := true, recurses := true, apart := false, narrowed := true }
def FnStepStateSmallUptoSaid : Prop := fnStepStateSmallUptoRow.holds Tryz.pinned (OpenSpec.upto fnStepStateSmallSpec)

/-- 'laws.FnStatsOf', WHERE WHAT IT READS IS OF BULK AT MOST 1048576: true; the input reads as it did. -/
def fnStatsOfUptoRow : OpenClaim := { program := "ytkoifinbblcbiaagreat", sum := "acddf176628d7dcf3d56decd1095f48a899f825b047ba60e6b71132736cb53df", func := "loop.example/refcountml/laws.FnStatsOf", spec := "fnStatsOf", unfollowed := true, recurses := true, apart := false, narrowed := true }
def FnStatsOfUptoSaid : Prop := fnStatsOfUptoRow.holds Tryz.pinned (OpenSpec.upto fnStatsOfSpec)

/-- 'laws.FnStatsOfState', WHERE WHAT IT READS IS OF BULK AT MOST 1048576: true; the input reads as it did. -/
def fnStatsOfStateUptoRow : OpenClaim := { program := "ytkoifinbblcbiaagreat", sum := "acddf176628d7dcf3d56decd1095f48a899f825b047ba60e6b71132736cb53df", func := "loop.example/refcountml/laws.FnStatsOfState", spec := "fnStatsOfState", unfollowed := true, recurses := true, apart := false, narrowed := true }
def FnStatsOfStateUptoSaid : Prop := fnStatsOfStateUptoRow.holds Tryz.pinned (OpenSpec.upto fnStatsOfStateSpec)

end Rows
end Go.Proofs.YtkoifinbblcbiaaGreat
