/-
  No cell of these rows narrows 'for every input' (looked for: loops, veiled, ifaces, maps, wideKeys, modest, calm, conditions, laid).
  DERIVED. THE GIVEN ROWS OF THIS SEAT. 4 by the template 'for every input the law returns true; each argument reads behind the call as it read before'; 0 by the template 'total and deterministic' (their statements: YtbbbdejieenniaaGreatTotals.lean).
  GIVEN WITH THE SEED: the statements are not yours to turn. If you find one false, say at which input.
  Laid BY PROGRAM, IN A SANDBOX (cutbox-rows.mjs): the forced cells as the released guide's own fill.sh prints them over the translation 8a00be2c568d21a6… (all of the seat's roots in one cut). By AI agents, Wed Nov 11 2026. No macro, syntax, notation, axiom, sorry.
-/
import Derived.Test.YtbbbdejieenniaaGreatChecked
import GoSem.Claim
import GoSem.ClaimJoined
import GoSem.ClaimMapViews
import Derived.JoinedTies
import Derived.KernelRfl
namespace Go.Proofs.YtbbbdejieenniaaGreat
/- THE CELL 'sum', in the pinned program and in every row, IS THE sha256 OF THE DUMP (.gsa) THAT YtbbbdejieenniaaGreatProg.lean LOADS. Nothing in Lean hashes anything: it is a label: what it is worth is what the hold of that sum in a sandbox is worth. -/
noncomputable def Tryz.pinned : Pinned := { name := "ytbbbdejieenniaagreat", sum := "8a00be2c568d21a6152884b03a78965b6eee9c1ff07167b70756487da054fcf3", checked := Tryz.checked }
namespace Rows
def none {H : Type} : Left H := { results := [], args := [] }

/-- 'laws.FnTailCallsExecute': WHATEVER THE INPUT: true; the input reads as it did. -/
def fnTailCallsExecuteSpec : ChangeSpec := { name := "fnTailCallsExecute", fn := fun _ => fun
  | [d] => { results := [.lit (.bool true)], args := [d] }
  | _ => none }
def fnTailCallsExecuteRow : OpenClaim := { program := "ytbbbdejieenniaagreat", sum := "8a00be2c568d21a6152884b03a78965b6eee9c1ff07167b70756487da054fcf3", func := "loop.example/refcountml/laws.FnTailCallsExecute", spec := "fnTailCallsExecute", unfollowed := true, recurses := true, apart := false }
def FnTailCallsExecuteSaid : Prop := fnTailCallsExecuteRow.holds Tryz.pinned (OpenSpec.ofChange fnTailCallsExecuteSpec)

/-- ITS FALSE NEIGHBOUR: 'it returns false'. Refute it at one input. -/
def fnTailCallsExecuteWrong : ChangeSpec := { name := "fnTailCallsExecute", fn := fun _ => fun
  | [d] => { results := [.lit (.bool false)], args := [d] }
  | _ => none }
def FnTailCallsExecuteWrongFalsely : Prop := fnTailCallsExecuteRow.holds Tryz.pinned (OpenSpec.ofChange fnTailCallsExecuteWrong)

/-- 'laws.FnStatsOfTail': WHATEVER THE INPUT: true; the input reads as it did. -/
def fnStatsOfTailSpec : ChangeSpec := { name := "fnStatsOfTail", fn := fun _ => fun
  | [d] => { results := [.lit (.bool true)], args := [d] }
  | _ => none }
def fnStatsOfTailRow : OpenClaim := { program := "ytbbbdejieenniaagreat", sum := "8a00be2c568d21a6152884b03a78965b6eee9c1ff07167b70756487da054fcf3", func := "loop.example/refcountml/laws.FnStatsOfTail", spec := "fnStatsOfTail", unfollowed := true, recurses := true, apart := false }
def FnStatsOfTailSaid : Prop := fnStatsOfTailRow.holds Tryz.pinned (OpenSpec.ofChange fnStatsOfTailSpec)

/-- ITS FALSE NEIGHBOUR: 'it returns false'. Refute it at one input. -/
def fnStatsOfTailWrong : ChangeSpec := { name := "fnStatsOfTail", fn := fun _ => fun
  | [d] => { results := [.lit (.bool false)], args := [d] }
  | _ => none }
def FnStatsOfTailWrongFalsely : Prop := fnStatsOfTailRow.holds Tryz.pinned (OpenSpec.ofChange fnStatsOfTailWrong)

/-- 'laws.FnOwnsAt': WHATEVER THE INPUT: true; the input reads as it did. -/
def fnOwnsAtSpec : ChangeSpec := { name := "fnOwnsAt", fn := fun _ => fun
  | [d] => { results := [.lit (.bool true)], args := [d] }
  | _ => none }
def fnOwnsAtRow : OpenClaim := { program := "ytbbbdejieenniaagreat", sum := "8a00be2c568d21a6152884b03a78965b6eee9c1ff07167b70756487da054fcf3", func := "loop.example/refcountml/laws.FnOwnsAt", spec := "fnOwnsAt", unfollowed := true, recurses := true, apart := false }
def FnOwnsAtSaid : Prop := fnOwnsAtRow.holds Tryz.pinned (OpenSpec.ofChange fnOwnsAtSpec)

/-- ITS FALSE NEIGHBOUR: 'it returns false'. Refute it at one input. -/
def fnOwnsAtWrong : ChangeSpec := { name := "fnOwnsAt", fn := fun _ => fun
  | [d] => { results := [.lit (.bool false)], args := [d] }
  | _ => none }
def FnOwnsAtWrongFalsely : Prop := fnOwnsAtRow.holds Tryz.pinned (OpenSpec.ofChange fnOwnsAtWrong)

/-- 'laws.FnTypesAtState': WHATEVER THE INPUT: true; the input reads as it did. -/
def fnTypesAtStateSpec : ChangeSpec := { name := "fnTypesAtState", fn := fun _ => fun
  | [d] => { results := [.lit (.bool true)], args := [d] }
  | _ => none }
def fnTypesAtStateRow : OpenClaim := { program := "ytbbbdejieenniaagreat", sum := "8a00be2c568d21a6152884b03a78965b6eee9c1ff07167b70756487da054fcf3", func := "loop.example/refcountml/laws.FnTypesAtState", spec := "fnTypesAtState", unfollowed := true, recurses := true, apart := false }
def FnTypesAtStateSaid : Prop := fnTypesAtStateRow.holds Tryz.pinned (OpenSpec.ofChange fnTypesAtStateSpec)

/-- ITS FALSE NEIGHBOUR: 'it returns false'. Refute it at one input. -/
def fnTypesAtStateWrong : ChangeSpec := { name := "fnTypesAtState", fn := fun _ => fun
  | [d] => { results := [.lit (.bool false)], args := [d] }
  | _ => none }
def FnTypesAtStateWrongFalsely : Prop := fnTypesAtStateRow.holds Tryz.pinned (OpenSpec.ofChange fnTypesAtStateWrong)

/- THE SECOND FORM. 'bulk': how many values and letters a reading holds, each counted each time it is reached (what is shared counts as often as it is met; a slice's spare places count too). A statement '..UptoSaid' is the law's where the arguments, and the package variables that the reading takes, are together of bulk at most 1048576: NARROWER than '..Said'. Prove '..Said' where nothing that the law and all that it calls make is longer than what came in: it says more and counts as full. Else prove '..UptoSaid'. A law counts once. -/
mutual
def uptoBulk {H : Type} : DataW H → Nat
  | .lit (.string bytes) => bytes.length + 1
  | .lit _ => 1
  | .nil => 1
  | .ptr d => uptoBulk d + 1
  | .slice elems spare => uptoBulkAll elems + uptoBulkAll spare + 1
  | .agg parts => uptoBulkAll parts + 1
  | .iface _ d => uptoBulk d + 1
  | .map entries => uptoBulkEntries entries + 1
  | .held _ => 1
def uptoBulkAll {H : Type} : List (DataW H) → Nat
  | [] => 0
  | d :: r => uptoBulk d + uptoBulkAll r
def uptoBulkEntries {H : Type} : List (Lit × DataW H) → Nat
  | [] => 0
  | x :: r => uptoBulkEntry x + uptoBulkEntries r
def uptoBulkEntry {H : Type} : Lit × DataW H → Nat
  | (.string bytes, d) => bytes.length + uptoBulk d + 1
  | (_, d) => uptoBulk d + 1
 end
def uptoSmall : (H : Type) → List (DataW H) → Bool := fun _ ds => decide (uptoBulkAll ds ≤ 1048576)
def OpenSpec.upto (s : _root_.Go.ChangeSpec) : _root_.Go.OpenSpec := { _root_.Go.OpenSpec.ofChange s with cond := some uptoSmall }

/-- 'laws.FnTailCallsExecute', WHERE WHAT IT READS IS OF BULK AT MOST 1048576: true; the input reads as it did. -/
def fnTailCallsExecuteUptoRow : OpenClaim := { program := "ytbbbdejieenniaagreat", sum := "8a00be2c568d21a6152884b03a78965b6eee9c1ff07167b70756487da054fcf3", func := "loop.example/refcountml/laws.FnTailCallsExecute", spec := "fnTailCallsExecute", unfollowed := true, recurses := true, apart := false, narrowed := true }
def FnTailCallsExecuteUptoSaid : Prop := fnTailCallsExecuteUptoRow.holds Tryz.pinned (OpenSpec.upto fnTailCallsExecuteSpec)

/-- 'laws.FnStatsOfTail', WHERE WHAT IT READS IS OF BULK AT MOST 1048576: true; the input reads as it did. -/
def fnStatsOfTailUptoRow : OpenClaim := { program := "ytbbbdejieenniaagreat", sum := "8a00be2c568d21a6152884b03a78965b6eee9c1ff07167b70756487da054fcf3", func := "loop.example/refcountml/laws.FnStatsOfTail", spec := "fnStatsOfTail", unfollowed := true, recurses := true, apart := false, narrowed := true }
def FnStatsOfTailUptoSaid : Prop := fnStatsOfTailUptoRow.holds Tryz.pinned (OpenSpec.upto fnStatsOfTailSpec)

/-- 'laws.FnOwnsAt', WHERE WHAT IT READS IS OF BULK AT MOST 1048576: true; the input reads as it did. -/
def fnOwnsAtUptoRow : OpenClaim := { program := "ytbbbdejieenniaagreat", sum := "8a00be2c568d21a6152884b03a78965b6eee9c1ff07167b70756487da054fcf3", func := "loop.example/refcountml/laws.FnOwnsAt", spec := "fnOwnsAt", unfollowed := true, recurses := true, apart := false, narrowed := true }
def FnOwnsAtUptoSaid : Prop := fnOwnsAtUptoRow.holds Tryz.pinned (OpenSpec.upto fnOwnsAtSpec)

/-- 'laws.FnTypesAtState', WHERE WHAT IT READS IS OF BULK AT MOST 1048576: true; the input reads as it did. -/
def fnTypesAtStateUptoRow : OpenClaim := { program := "ytbbbdejieenniaagreat", sum := "8a00be2c568d21a6152884b03a78965b6eee9c1ff07167b70756487da054fcf3", func := "loop.example/refcountml/laws.FnTypesAtState", spec := "fnTypesAtState", unfollowed := true, recurses := true, apart := false, narrowed := true }
def FnTypesAtStateUptoSaid : Prop := fnTypesAtStateUptoRow.holds Tryz.pinned (OpenSpec.upto fnTypesAtStateSpec)

end Rows
end Go.Proofs.YtbbbdejieenniaaGreat
