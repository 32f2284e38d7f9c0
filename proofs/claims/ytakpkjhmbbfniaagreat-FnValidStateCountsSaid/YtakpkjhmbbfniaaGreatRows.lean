/-
  No cell of these rows narrows 'for every input' (looked for: loops, veiled, ifaces, maps, wideKeys, modest, calm, conditions, laid).
  DERIVED. THE GIVEN ROWS OF THIS SEAT. 3 by the template 'for every input the law returns true; each argument reads behind the call as it read before'; 0 by the template 'total and deterministic' (their statements: YtakpkjhmbbfniaaGreatTotals.lean).
  GIVEN WITH THE SEED: the statements are not yours to turn. If you find one false, say at which input.
  Laid BY PROGRAM, IN A SANDBOX (cutbox-rows.mjs): the forced cells as the released guide's own fill.sh prints them over the translation 87245d44427b081e… (all of the seat's roots in one cut). By AI agents, Wed Nov 11 2026. No macro, syntax, notation, axiom, sorry.
-/
import Derived.Test.YtakpkjhmbbfniaaGreatChecked
import GoSem.Claim
import GoSem.ClaimJoined
import GoSem.ClaimMapViews
import Derived.JoinedTies
import Derived.KernelRfl
namespace Go.Proofs.YtakpkjhmbbfniaaGreat
/- THE CELL 'sum', in the pinned program and in every row, IS THE sha256 OF THE DUMP (.gsa) THAT YtakpkjhmbbfniaaGreatProg.lean LOADS. Nothing in Lean hashes anything: it is a label: what it is worth is what the hold of that sum in a sandbox is worth. -/
noncomputable def Tryz.pinned : Pinned := { name := "ytakpkjhmbbfniaagreat", sum := "87245d44427b081ecc919394beb21ddd165391164ddb6fdb610670b92c44a6aa", checked := Tryz.checked }
namespace Rows
def none {H : Type} : Left H := { results := [], args := [] }

/-- 'laws.FnValidState': WHATEVER THE INPUT: true; the input reads as it did. -/
def fnValidStateSpec : ChangeSpec := { name := "fnValidState", fn := fun _ => fun
  | [d] => { results := [.lit (.bool true)], args := [d] }
  | _ => none }
def fnValidStateRow : OpenClaim := { program := "ytakpkjhmbbfniaagreat", sum := "87245d44427b081ecc919394beb21ddd165391164ddb6fdb610670b92c44a6aa", func := "loop.example/refcountml/laws.FnValidState", spec := "fnValidState", unfollowed := true, recurses := true, apart := false }
def FnValidStateSaid : Prop := fnValidStateRow.holds Tryz.pinned (OpenSpec.ofChange fnValidStateSpec)

/-- ITS FALSE NEIGHBOUR: 'it returns false'. Refute it at one input. -/
def fnValidStateWrong : ChangeSpec := { name := "fnValidState", fn := fun _ => fun
  | [d] => { results := [.lit (.bool false)], args := [d] }
  | _ => none }
def FnValidStateWrongFalsely : Prop := fnValidStateRow.holds Tryz.pinned (OpenSpec.ofChange fnValidStateWrong)

/-- 'laws.FnValidStateHeld': WHATEVER THE INPUT: true; the input reads as it did. -/
def fnValidStateHeldSpec : ChangeSpec := { name := "fnValidStateHeld", fn := fun _ => fun
  | [d] => { results := [.lit (.bool true)], args := [d] }
  | _ => none }
def fnValidStateHeldRow : OpenClaim := { program := "ytakpkjhmbbfniaagreat", sum := "87245d44427b081ecc919394beb21ddd165391164ddb6fdb610670b92c44a6aa", func := "loop.example/refcountml/laws.FnValidStateHeld", spec := "fnValidStateHeld", unfollowed := true, recurses := true, apart := false }
def FnValidStateHeldSaid : Prop := fnValidStateHeldRow.holds Tryz.pinned (OpenSpec.ofChange fnValidStateHeldSpec)

/-- ITS FALSE NEIGHBOUR: 'it returns false'. Refute it at one input. -/
def fnValidStateHeldWrong : ChangeSpec := { name := "fnValidStateHeld", fn := fun _ => fun
  | [d] => { results := [.lit (.bool false)], args := [d] }
  | _ => none }
def FnValidStateHeldWrongFalsely : Prop := fnValidStateHeldRow.holds Tryz.pinned (OpenSpec.ofChange fnValidStateHeldWrong)

/-- 'laws.FnValidStateCounts': WHATEVER THE INPUT: true; the input reads as it did. -/
def fnValidStateCountsSpec : ChangeSpec := { name := "fnValidStateCounts", fn := fun _ => fun
  | [d] => { results := [.lit (.bool true)], args := [d] }
  | _ => none }
def fnValidStateCountsRow : OpenClaim := { program := "ytakpkjhmbbfniaagreat", sum := "87245d44427b081ecc919394beb21ddd165391164ddb6fdb610670b92c44a6aa", func := "loop.example/refcountml/laws.FnValidStateCounts", spec := "fnValidStateCounts", unfollowed := true, recurses := true, apart := false }
def FnValidStateCountsSaid : Prop := fnValidStateCountsRow.holds Tryz.pinned (OpenSpec.ofChange fnValidStateCountsSpec)

/-- ITS FALSE NEIGHBOUR: 'it returns false'. Refute it at one input. -/
def fnValidStateCountsWrong : ChangeSpec := { name := "fnValidStateCounts", fn := fun _ => fun
  | [d] => { results := [.lit (.bool false)], args := [d] }
  | _ => none }
def FnValidStateCountsWrongFalsely : Prop := fnValidStateCountsRow.holds Tryz.pinned (OpenSpec.ofChange fnValidStateCountsWrong)

/- THE SECOND FORM. 'bulk': how many values and letters a reading holds, each counted each time it is reached (what is shared counts as often as it is met; a slice's spare places count too). A statement '..UptoSaid' is the law's where the arguments, and the package variables that the reading takes, are together of bulk at most 1048576: NARROWER than '..Said'. Prove '..Said' where nothing that the law and all that it calls make is longer than what came in: it says more and counts as full. Else prove '..UptoSaid'. A law counts once. -/
mutual
def uptoBulk {H : Type} : DataW H → Nat
  | .lit (.string bytes) => bytes.length + 1
  | .lit _ => 1
  | .nil => 1
  | .ptr d => uptoBulk d + 1
  | .slice elems spare => uptoBulkAll elems + uptoBulkAll spare + 1
  | .agg parts => uptoBulkAll parts + 1
  | .iface _ d => uptoBulk d + 1
  | .map entries => uptoBulkEntries entries + 1
  | .held _ => 1
def uptoBulkAll {H : Type} : List (DataW H) → Nat
  | [] => 0
  | d :: r => uptoBulk d + uptoBulkAll r
def uptoBulkEntries {H : Type} : List (Lit × DataW H) → Nat
  | [] => 0
  | x :: r => uptoBulkEntry x + uptoBulkEntries r
def uptoBulkEntry {H : Type} : Lit × DataW H → Nat
  | (.string bytes, d) => bytes.length + uptoBulk d + 1
  | (_, d) => uptoBulk d + 1
 end
def uptoSmall : (H : Type) → List (DataW H) → Bool := fun _ ds => decide (uptoBulkAll ds ≤ 1048576)
def OpenSpec.upto (s : _root_.Go.ChangeSpec) : _root_.Go.OpenSpec := { _root_.Go.OpenSpec.ofChange s with cond := some uptoSmall }

/-- 'laws.FnValidState', WHERE WHAT IT READS IS OF BULK AT MOST 1048576: true; the input reads as it did. -/
def fnValidStateUptoRow : OpenClaim := { program := "ytakpkjhmbbfniaagreat", sum := "87245d44427b081ecc919394beb21ddd165391164ddb6fdb610670b92c44a6aa", func := "loop.example/refcountml/laws.FnValidState", spec := "fnValidState", unfollowed := true, recurses := true, apart := false, narrowed := true }
def FnValidStateUptoSaid : Prop := fnValidStateUptoRow.holds Tryz.pinned (OpenSpec.upto fnValidStateSpec)

/-- 'laws.FnValidStateHeld', WHERE WHAT IT READS IS OF BULK AT MOST 1048576: true; the input reads as it did. -/
def fnValidStateHeldUptoRow : OpenClaim := { program := "ytakpkjhmbbfniaagreat", sum := "87245d44427b081ecc919394beb21ddd165391164ddb6fdb610670b92c44a6aa", func := "loop.example/refcountml/laws.FnValidStateHeld", spec := "fnValidStateHeld", unfollowed := true, recurses := true, apart := false, narrowed := true }
def FnValidStateHeldUptoSaid : Prop := fnValidStateHeldUptoRow.holds Tryz.pinned (OpenSpec.upto fnValidStateHeldSpec)

/-- 'laws.FnValidStateCounts', WHERE WHAT IT READS IS OF BULK AT MOST 1048576: true; the input reads as it did. -/
def fnValidStateCountsUptoRow : OpenClaim := { program := "ytakpkjhmbbfniaagreat", sum := "87245d44427b081ecc919394beb21ddd165391164ddb6fdb610670b92c44a6aa", func := "loop.example/refcountml/laws.FnValidStateCounts", spec := "fnValidStateCounts", unfollowed := true, recurses := true, apart := false, narrowed := true }
def FnValidStateCountsUptoSaid : Prop := fnValidStateCountsUptoRow.holds Tryz.pinned (OpenSpec.upto fnValidStateCountsSpec)

end Rows
end Go.Proofs.YtakpkjhmbbfniaaGreat
