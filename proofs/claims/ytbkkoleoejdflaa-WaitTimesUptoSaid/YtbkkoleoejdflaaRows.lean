/-
  No cell of these rows narrows 'for every input' (looked for: loops, veiled, ifaces, maps, wideKeys, modest, calm, conditions, laid).
  DERIVED. THE GIVEN ROWS OF THIS SEAT. 3 by the template 'for every input the law returns true; each argument reads behind the call as it read before'; 0 by the template 'total and deterministic' (their statements: YtbkkoleoejdflaaTotals.lean).
  GIVEN WITH THE SEED: the statements are not yours to turn. If you find one false, say at which input.
  Laid BY PROGRAM, IN A SANDBOX (cutbox-rows.mjs): the forced cells as the released guide's own fill.sh prints them over the translation f79eb8d670768c65… (all of the seat's roots in one cut). By AI agents, Wed Nov 11 2026. No macro, syntax, notation, axiom, sorry.
-/
import Derived.Test.YtbkkoleoejdflaaChecked
import GoSem.Claim
import GoSem.ClaimJoined
import GoSem.ClaimMapViews
import Derived.JoinedTies
import Derived.KernelRfl
namespace Go.Proofs.Ytbkkoleoejdflaa
/- THE CELL 'sum', in the pinned program and in every row, IS THE sha256 OF THE DUMP (.gsa) THAT YtbkkoleoejdflaaProg.lean LOADS. Nothing in Lean hashes anything: it is a label: what it is worth is what the hold of that sum in a sandbox is worth. -/
noncomputable def Try.pinned : Pinned := { name := "ytbkkoleoejdflaa", sum := "f79eb8d670768c65650741b5105254f59f6d0c15725c3ae77441ab73469fcfb2", checked := Try.checked }
namespace Rows
def none {H : Type} : Left H := { results := [], args := [] }

/-- 'renlaw22.WaitFair': WHATEVER THE INPUT: true; the input reads as it did. -/
def waitFairSpec : ChangeSpec := { name := "waitFair", fn := fun _ => fun
  | [d1, d2, d3] => { results := [.lit (.bool true)], args := [d1, d2, d3] }
  | _ => none }
def waitFairRow : OpenClaim := { program := "ytbkkoleoejdflaa", sum := "f79eb8d670768c65650741b5105254f59f6d0c15725c3ae77441ab73469fcfb2", func := "rendezvous/renlaw22.WaitFair", spec := "waitFair", unfollowed := true, recurses := true, plainKeys := false, apart := false }
def WaitFairSaid : Prop := waitFairRow.holds Try.pinned (OpenSpec.ofChange waitFairSpec)

/-- ITS FALSE NEIGHBOUR: 'it returns false'. Refute it at one input. -/
def waitFairWrong : ChangeSpec := { name := "waitFair", fn := fun _ => fun
  | [d1, d2, d3] => { results := [.lit (.bool false)], args := [d1, d2, d3] }
  | _ => none }
def WaitFairWrongFalsely : Prop := waitFairRow.holds Try.pinned (OpenSpec.ofChange waitFairWrong)

/-- 'renlaw22.WaitOnce': WHATEVER THE INPUT: true; the input reads as it did. -/
def waitOnceSpec : ChangeSpec := { name := "waitOnce", fn := fun _ => fun
  | [d1, d2, d3, d4] => { results := [.lit (.bool true)], args := [d1, d2, d3, d4] }
  | _ => none }
def waitOnceRow : OpenClaim := { program := "ytbkkoleoejdflaa", sum := "f79eb8d670768c65650741b5105254f59f6d0c15725c3ae77441ab73469fcfb2", func := "rendezvous/renlaw22.WaitOnce", spec := "waitOnce", unfollowed := true, recurses := true, plainKeys := false, apart := false }
def WaitOnceSaid : Prop := waitOnceRow.holds Try.pinned (OpenSpec.ofChange waitOnceSpec)

/-- ITS FALSE NEIGHBOUR: 'it returns false'. Refute it at one input. -/
def waitOnceWrong : ChangeSpec := { name := "waitOnce", fn := fun _ => fun
  | [d1, d2, d3, d4] => { results := [.lit (.bool false)], args := [d1, d2, d3, d4] }
  | _ => none }
def WaitOnceWrongFalsely : Prop := waitOnceRow.holds Try.pinned (OpenSpec.ofChange waitOnceWrong)

/-- 'renlaw22.WaitTimes': WHATEVER THE INPUT: true; the input reads as it did. -/
def waitTimesSpec : ChangeSpec := { name := "waitTimes", fn := fun _ => fun
  | [d1, d2, d3] => { results := [.lit (.bool true)], args := [d1, d2, d3] }
  | _ => none }
def waitTimesRow : OpenClaim := { program := "ytbkkoleoejdflaa", sum := "f79eb8d670768c65650741b5105254f59f6d0c15725c3ae77441ab73469fcfb2", func := "rendezvous/renlaw22.WaitTimes", spec := "waitTimes", unfollowed := true, recurses := true, plainKeys := false, apart := false }
def WaitTimesSaid : Prop := waitTimesRow.holds Try.pinned (OpenSpec.ofChange waitTimesSpec)

/-- ITS FALSE NEIGHBOUR: 'it returns false'. Refute it at one input. -/
def waitTimesWrong : ChangeSpec := { name := "waitTimes", fn := fun _ => fun
  | [d1, d2, d3] => { results := [.lit (.bool false)], args := [d1, d2, d3] }
  | _ => none }
def WaitTimesWrongFalsely : Prop := waitTimesRow.holds Try.pinned (OpenSpec.ofChange waitTimesWrong)

/- THE SECOND FORM. 'bulk': how many values and letters a reading holds, each counted each time it is reached (what is shared counts as often as it is met; a slice's spare places count too). A statement '..UptoSaid' is the law's where the arguments, and the package variables that the reading takes, are together of bulk at most 1048576: NARROWER than '..Said'. Prove '..Said' where nothing that the law and all that it calls make is longer than what came in: it says more and counts as full. Else prove '..UptoSaid'. A law counts once. -/
mutual
def uptoBulk {H : Type} : DataW H → Nat
  | .lit (.string bytes) => bytes.length + 1
  | .lit _ => 1
  | .nil => 1
  | .ptr d => uptoBulk d + 1
  | .slice elems spare => uptoBulkAll elems + uptoBulkAll spare + 1
  | .agg parts => uptoBulkAll parts + 1
  | .iface _ d => uptoBulk d + 1
  | .map entries => uptoBulkEntries entries + 1
  | .held _ => 1
def uptoBulkAll {H : Type} : List (DataW H) → Nat
  | [] => 0
  | d :: r => uptoBulk d + uptoBulkAll r
def uptoBulkEntries {H : Type} : List (Lit × DataW H) → Nat
  | [] => 0
  | x :: r => uptoBulkEntry x + uptoBulkEntries r
def uptoBulkEntry {H : Type} : Lit × DataW H → Nat
  | (.string bytes, d) => bytes.length + uptoBulk d + 1
  | (_, d) => uptoBulk d + 1
 end
def uptoSmall : (H : Type) → List (DataW H) → Bool := fun _ ds => decide (uptoBulkAll ds ≤ 1048576)
def OpenSpec.upto (s : _root_.Go.ChangeSpec) : _root_.Go.OpenSpec := { _root_.Go.OpenSpec.ofChange s with cond := some uptoSmall }

/-- 'renlaw22.WaitFair', WHERE WHAT IT READS IS OF BULK AT MOST 1048576: true; the input reads as it did. -/
def waitFairUptoRow : OpenClaim := { program := "ytbkkoleoejdflaa", sum := "f79eb8d670768c65650741b5105254f59f6d0c15725c3ae77441ab73469fcfb2", func := "rendezvous/renlaw22.WaitFair", spec := "waitFair", unfollowed := true, recurses := true, plainKeys := false, apart := false, narrowed := true }
def WaitFairUptoSaid : Prop := waitFairUptoRow.holds Try.pinned (OpenSpec.upto waitFairSpec)

/-- 'renlaw22.WaitOnce', WHERE WHAT IT READS IS OF BULK AT MOST 1048576: true; the input reads as it did. -/
def waitOnceUptoRow : OpenClaim := { program := "ytbkkoleoejdflaa", sum := "f79eb8d670768c65650741b5105254f59f6d0c15725c3ae77441ab73469fcfb2", func := "rendezvous/renlaw22.WaitOnce", spec := "waitOnce", unfollowed := true, recurses := true, plainKeys := false, apart := false, narrowed := true }
def WaitOnceUptoSaid : Prop := waitOnceUptoRow.holds Try.pinned (OpenSpec.upto waitOnceSpec)

/-- 'renlaw22.WaitTimes', WHERE WHAT IT READS IS OF BULK AT MOST 1048576: true; the input reads as it did. -/
def waitTimesUptoRow : OpenClaim := { program := "ytbkkoleoejdflaa", sum := "f79eb8d670768c65650741b5105254f59f6d0c15725c3ae77441ab73469fcfb2", func := "rendezvous/renlaw22.WaitTimes", spec := "waitTimes", unfollowed := true, recurses := true, plainKeys := false, apart := false, narrowed := true }
def WaitTimesUptoSaid : Prop := waitTimesUptoRow.holds Try.pinned (OpenSpec.upto waitTimesSpec)

end Rows
end Go.Proofs.Ytbkkoleoejdflaa
