/-
  No cell of these rows narrows 'for every input' (looked for: loops, veiled, ifaces, maps, wideKeys, modest, calm, conditions, laid).
  DERIVED. THE GIVEN ROWS OF THIS SEAT. 7 by the template 'for every input the law returns true; each argument reads behind the call as it read before'; 0 by the template 'total and deterministic' (their statements: YtcmodlcodhblcaaTotals.lean).
  GIVEN WITH THE SEED: the statements are not yours to turn. If you find one false, say at which input.
  Laid BY PROGRAM, IN A SANDBOX (cutbox-rows.mjs): the forced cells as the released guide's own fill.sh prints them over the translation 3c0700d613ecaa0f… (all of the seat's roots in one cut). By AI agents, Wed Nov 11 2026. No macro, syntax, notation, axiom, sorry.
-/
import Derived.Test.YtcmodlcodhblcaaChecked
import GoSem.Claim
import GoSem.ClaimJoined
import GoSem.ClaimMapViews
import Derived.JoinedTies
import Derived.KernelRfl
namespace Go.Proofs.Ytcmodlcodhblcaa
/- THE CELL 'sum', in the pinned program and in every row, IS THE sha256 OF THE DUMP (.gsa) THAT YtcmodlcodhblcaaProg.lean LOADS. Nothing in Lean hashes anything: it is a label: what it is worth is what the hold of that sum in a sandbox is worth. -/
noncomputable def Try.pinned : Pinned := { name := "ytcmodlcodhblcaa", sum := "3c0700d613ecaa0f8bc740e2c3ff72e4853d3911d0f9371ac883ae086021aef7", checked := Try.checked }
namespace Rows
def none {H : Type} : Left H := { results := [], args := [] }

/-- 'renlaw9.HeapOwns': WHATEVER THE INPUT: true; the input reads as it did. -/
def heapOwnsSpec : ChangeSpec := { name := "heapOwns", fn := fun _ => fun
  | [d1, d2] => { results := [.lit (.bool true)], args := [d1, d2] }
  | _ => none }
def heapOwnsRow : OpenClaim := { program := "ytcmodlcodhblcaa", sum := "3c0700d613ecaa0f8bc740e2c3ff72e4853d3911d0f9371ac883ae086021aef7", func := "rendezvous/renlaw9.HeapOwns", spec := "heapOwns", unfollowed := true, recurses := true, apart := false }
def HeapOwnsSaid : Prop := heapOwnsRow.holds Try.pinned (OpenSpec.ofChange heapOwnsSpec)

/-- ITS FALSE NEIGHBOUR: 'it returns false'. Refute it at one input. -/
def heapOwnsWrong : ChangeSpec := { name := "heapOwns", fn := fun _ => fun
  | [d1, d2] => { results := [.lit (.bool false)], args := [d1, d2] }
  | _ => none }
def HeapOwnsWrongFalsely : Prop := heapOwnsRow.holds Try.pinned (OpenSpec.ofChange heapOwnsWrong)

/-- 'renlaw9.HeapRoom': WHATEVER THE INPUT: true; the input reads as it did. -/
def heapRoomSpec : ChangeSpec := { name := "heapRoom", fn := fun _ => fun
  | [d1, d2, d3] => { results := [.lit (.bool true)], args := [d1, d2, d3] }
  | _ => none }
def heapRoomRow : OpenClaim := { program := "ytcmodlcodhblcaa", sum := "3c0700d613ecaa0f8bc740e2c3ff72e4853d3911d0f9371ac883ae086021aef7", func := "rendezvous/renlaw9.HeapRoom", spec := "heapRoom", unfollowed := true, recurses := true, apart := false }
def HeapRoomSaid : Prop := heapRoomRow.holds Try.pinned (OpenSpec.ofChange heapRoomSpec)

/-- ITS FALSE NEIGHBOUR: 'it returns false'. Refute it at one input. -/
def heapRoomWrong : ChangeSpec := { name := "heapRoom", fn := fun _ => fun
  | [d1, d2, d3] => { results := [.lit (.bool false)], args := [d1, d2, d3] }
  | _ => none }
def HeapRoomWrongFalsely : Prop := heapRoomRow.holds Try.pinned (OpenSpec.ofChange heapRoomWrong)

/-- 'renlaw9.HeapChains': WHATEVER THE INPUT: true; the input reads as it did. -/
def heapChainsSpec : ChangeSpec := { name := "heapChains", fn := fun _ => fun
  | [d1, d2, d3, d4, d5, d6] => { results := [.lit (.bool true)], args := [d1, d2, d3, d4, d5, d6] }
  | _ => none }
def heapChainsRow : OpenClaim := { program := "ytcmodlcodhblcaa", sum := "3c0700d613ecaa0f8bc740e2c3ff72e4853d3911d0f9371ac883ae086021aef7", func := "rendezvous/renlaw9.HeapChains", spec := "heapChains", unfollowed := true, recurses := true, apart := false }
def HeapChainsSaid : Prop := heapChainsRow.holds Try.pinned (OpenSpec.ofChange heapChainsSpec)

/-- ITS FALSE NEIGHBOUR: 'it returns false'. Refute it at one input. -/
def heapChainsWrong : ChangeSpec := { name := "heapChains", fn := fun _ => fun
  | [d1, d2, d3, d4, d5, d6] => { results := [.lit (.bool false)], args := [d1, d2, d3, d4, d5, d6] }
  | _ => none }
def HeapChainsWrongFalsely : Prop := heapChainsRow.holds Try.pinned (OpenSpec.ofChange heapChainsWrong)

/-- 'renlaw9.HeapBytes': WHATEVER THE INPUT: true; the input reads as it did. -/
def heapBytesSpec : ChangeSpec := { name := "heapBytes", fn := fun _ => fun
  | [d1, d2, d3] => { results := [.lit (.bool true)], args := [d1, d2, d3] }
  | _ => none }
def heapBytesRow : OpenClaim := { program := "ytcmodlcodhblcaa", sum := "3c0700d613ecaa0f8bc740e2c3ff72e4853d3911d0f9371ac883ae086021aef7", func := "rendezvous/renlaw9.HeapBytes", spec := "heapBytes", unfollowed := true, recurses := true, apart := false }
def HeapBytesSaid : Prop := heapBytesRow.holds Try.pinned (OpenSpec.ofChange heapBytesSpec)

/-- ITS FALSE NEIGHBOUR: 'it returns false'. Refute it at one input. -/
def heapBytesWrong : ChangeSpec := { name := "heapBytes", fn := fun _ => fun
  | [d1, d2, d3] => { results := [.lit (.bool false)], args := [d1, d2, d3] }
  | _ => none }
def HeapBytesWrongFalsely : Prop := heapBytesRow.holds Try.pinned (OpenSpec.ofChange heapBytesWrong)

/-- 'renlaw9.HeapScopes': WHATEVER THE INPUT: true; the input reads as it did. -/
def heapScopesSpec : ChangeSpec := { name := "heapScopes", fn := fun _ => fun
  | [d1, d2, d3, d4, d5, d6] => { results := [.lit (.bool true)], args := [d1, d2, d3, d4, d5, d6] }
  | _ => none }
def heapScopesRow : OpenClaim := { program := "ytcmodlcodhblcaa", sum := "3c0700d613ecaa0f8bc740e2c3ff72e4853d3911d0f9371ac883ae086021aef7", func := "rendezvous/renlaw9.HeapScopes", spec := "heapScopes", unfollowed := true, recurses := true, apart := false }
def HeapScopesSaid : Prop := heapScopesRow.holds Try.pinned (OpenSpec.ofChange heapScopesSpec)

/-- ITS FALSE NEIGHBOUR: 'it returns false'. Refute it at one input. -/
def heapScopesWrong : ChangeSpec := { name := "heapScopes", fn := fun _ => fun
  | [d1, d2, d3, d4, d5, d6] => { results := [.lit (.bool false)], args := [d1, d2, d3, d4, d5, d6] }
  | _ => none }
def HeapScopesWrongFalsely : Prop := heapScopesRow.holds Try.pinned (OpenSpec.ofChange heapScopesWrong)

/-- 'renlaw9.HeapValues': WHATEVER THE INPUT: true; the input reads as it did. -/
def heapValuesSpec : ChangeSpec := { name := "heapValues", fn := fun _ => fun
  | [d1, d2] => { results := [.lit (.bool true)], args := [d1, d2] }
  | _ => none }
def heapValuesRow : OpenClaim := { program := "ytcmodlcodhblcaa", sum := "3c0700d613ecaa0f8bc740e2c3ff72e4853d3911d0f9371ac883ae086021aef7", func := "rendezvous/renlaw9.HeapValues", spec := "heapValues", unfollowed := true, recurses := true, apart := false }
def HeapValuesSaid : Prop := heapValuesRow.holds Try.pinned (OpenSpec.ofChange heapValuesSpec)

/-- ITS FALSE NEIGHBOUR: 'it returns false'. Refute it at one input. -/
def heapValuesWrong : ChangeSpec := { name := "heapValues", fn := fun _ => fun
  | [d1, d2] => { results := [.lit (.bool false)], args := [d1, d2] }
  | _ => none }
def HeapValuesWrongFalsely : Prop := heapValuesRow.holds Try.pinned (OpenSpec.ofChange heapValuesWrong)

/-- 'renlaw9.HeapPlays': WHATEVER THE INPUT: true; the input reads as it did. -/
def heapPlaysSpec : ChangeSpec := { name := "heapPlays", fn := fun _ => fun
  | [d1, d2] => { results := [.lit (.bool true)], args := [d1, d2] }
  | _ => none }
def heapPlaysRow : OpenClaim := { program := "ytcmodlcodhblcaa", sum := "3c0700d613ecaa0f8bc740e2c3ff72e4853d3911d0f9371ac883ae086021aef7", func := "rendezvous/renlaw9.HeapPlays", spec := "heapPlays", unfollowed := true, recurses := true, apart := false }
def HeapPlaysSaid : Prop := heapPlaysRow.holds Try.pinned (OpenSpec.ofChange heapPlaysSpec)

/-- ITS FALSE NEIGHBOUR: 'it returns false'. Refute it at one input. -/
def heapPlaysWrong : ChangeSpec := { name := "heapPlays", fn := fun _ => fun
  | [d1, d2] => { results := [.lit (.bool false)], args := [d1, d2] }
  | _ => none }
def HeapPlaysWrongFalsely : Prop := heapPlaysRow.holds Try.pinned (OpenSpec.ofChange heapPlaysWrong)

/- THE SECOND FORM. 'bulk': how many values and letters a reading holds, each counted each time it is reached (what is shared counts as often as it is met; a slice's spare places count too). A statement '..UptoSaid' is the law's where the arguments, and the package variables that the reading takes, are together of bulk at most 1048576: NARROWER than '..Said'. Prove '..Said' where nothing that the law and all that it calls make is longer than what came in: it says more and counts as full. Else prove '..UptoSaid'. A law counts once. -/
mutual
def uptoBulk {H : Type} : DataW H → Nat
  | .lit (.string bytes) => bytes.length + 1
  | .lit _ => 1
  | .nil => 1
  | .ptr d => uptoBulk d + 1
  | .slice elems spare => uptoBulkAll elems + uptoBulkAll spare + 1
  | .agg parts => uptoBulkAll parts + 1
  | .iface _ d => uptoBulk d + 1
  | .map entries => uptoBulkEntries entries + 1
  | .held _ => 1
def uptoBulkAll {H : Type} : List (DataW H) → Nat
  | [] => 0
  | d :: r => uptoBulk d + uptoBulkAll r
def uptoBulkEntries {H : Type} : List (Lit × DataW H) → Nat
  | [] => 0
  | x :: r => uptoBulkEntry x + uptoBulkEntries r
def uptoBulkEntry {H : Type} : Lit × DataW H → Nat
  | (.string bytes, d) => bytes.length + uptoBulk d + 1
  | (_, d) => uptoBulk d + 1
 end
def uptoSmall : (H : Type) → List (DataW H) → Bool := fun _ ds => decide (uptoBulkAll ds ≤ 1048576)
def OpenSpec.upto (s : _root_.Go.ChangeSpec) : _root_.Go.OpenSpec := { _root_.Go.OpenSpec.ofChange s with cond := some uptoSmall }

/-- 'renlaw9.HeapOwns', WHERE WHAT IT READS IS OF BULK AT MOST 1048576: true; the input reads as it did. -/
def heapOwnsUptoRow : OpenClaim := { program := "ytcmodlcodhblcaa", sum := "3c0700d613ecaa0f8bc740e2c3ff72e4853d3911d0f9371ac883ae086021aef7", func := "rendezvous/renlaw9.HeapOwns", spec := "heapOwns", unfollowed := true, recurses := true, apart := false, narrowed := true }
def HeapOwnsUptoSaid : Prop := heapOwnsUptoRow.holds Try.pinned (OpenSpec.upto heapOwnsSpec)

/-- 'renlaw9.HeapRoom', WHERE WHAT IT READS IS OF BULK AT MOST 1048576: true; the input reads as it did. -/
def heapRoomUptoRow : OpenClaim := { program := "ytcmodlcodhblcaa", sum := "3c0700d613ecaa0f8bc740e2c3ff72e4853d3911d0f9371ac883ae086021aef7", func := "rendezvous/renlaw9.HeapRoom", spec := "heapRoom", unfollowed := true, recurses := true, apart := false, narrowed := true }
def HeapRoomUptoSaid : Prop := heapRoomUptoRow.holds Try.pinned (OpenSpec.upto heapRoomSpec)

/-- 'renlaw9.HeapChains', WHERE WHAT IT READS IS OF BULK AT MOST 1048576: true; the input reads as it did. -/
def heapChainsUptoRow : OpenClaim := { program := "ytcmodlcodhblcaa", sum := "3c0700d613ecaa0f8bc740e2c3ff72e4853d3911d0f9371ac883ae086021aef7", func := "rendezvous/renlaw9.HeapChains", spec := "heapChains", unfollowed := true, recurses := true, apart := false, narrowed := true }
def HeapChainsUptoSaid : Prop := heapChainsUptoRow.holds Try.pinned (OpenSpec.upto heapChainsSpec)

/-- 'renlaw9.HeapBytes', WHERE WHAT IT READS IS OF BULK AT MOST 1048576: true; the input reads as it did. -/
def heapBytesUptoRow : OpenClaim := { program := "ytcmodlcodhblcaa", sum := "3c0700d613ecaa0f8bc740e2c3ff72e4853d3911d0f9371ac883ae086021aef7", func := "rendezvous/renlaw9.HeapBytes", spec := "heapBytes", unfollowed := true, recurses := true, apart := false, narrowed := true }
def HeapBytesUptoSaid : Prop := heapBytesUptoRow.holds Try.pinned (OpenSpec.upto heapBytesSpec)

/-- 'renlaw9.HeapScopes', WHERE WHAT IT READS IS OF BULK AT MOST 1048576: true; the input reads as it did. -/
def heapScopesUptoRow : OpenClaim := { program := "ytcmodlcodhblcaa", sum := "3c0700d613ecaa0f8bc740e2c3ff72e4853d3911d0f9371ac883ae086021aef7", func := "rendezvous/renlaw9.HeapScopes", spec := "heapScopes", unfollowed := true, recurses := true, apart := false, narrowed := true }
def HeapScopesUptoSaid : Prop := heapScopesUptoRow.holds Try.pinned (OpenSpec.upto heapScopesSpec)

/-- 'renlaw9.HeapValues', WHERE WHAT IT READS IS OF BULK AT MOST 1048576: true; the input reads as it did. -/
def heapValuesUptoRow : OpenClaim := { program := "ytcmodlcodhblcaa", sum := "3c0700d613ecaa0f8bc740e2c3ff72e4853d3911d0f9371ac883ae086021aef7", func := "rendezvous/renlaw9.HeapValues", spec := "heapValues", unfollowed := true, recurses := true, apart := false, narrowed := true }
def HeapValuesUptoSaid : Prop := heapValuesUptoRow.holds Try.pinned (OpenSpec.upto heapValuesSpec)

/-- 'renlaw9.HeapPlays', WHERE WHAT IT READS IS OF BULK AT MOST 1048576: true; the input reads as it did. -/
def heapPlaysUptoRow : OpenClaim := { program := "ytcmodlcodhblcaa", sum := "3c0700d613ecaa0f8bc740e2c3ff72e4853d3911d0f9371ac883ae086021aef7", func := "rendezvous/renlaw9.HeapPlays", spec := "heapPlays", unfollowed := true, recurses := true, apart := false, narrowed := true }
def HeapPlaysUptoSaid : Prop := heapPlaysUptoRow.holds Try.pinned (OpenSpec.upto heapPlaysSpec)

end Rows
end Go.Proofs.Ytcmodlcodhblcaa
