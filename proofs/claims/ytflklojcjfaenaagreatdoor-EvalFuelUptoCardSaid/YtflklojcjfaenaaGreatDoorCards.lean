/-
  DERIVED. GIVEN WITH THE SEED: THE CARDS: each row of YtflklojcjfaenaaGreatDoorRows.lean that lists a variable, with what it lists TIED to the program's text (the seventh form; the later family's looks); each row that meets fmt, with fmt's text TOLD by the authors' own Lean function (tested against real Go, not proved from fmt's source: count such statements apart). THE CARD IS WHAT COUNTS. Prove the row's statement (the work); the ties are given (YtflklojcjfaenaaGreatDoorTie.lean); close each card by the builder's one call (the guide's Derived/Test/ToyasCard.lean, 'card_holds'). Laid BY PROGRAM, IN A SANDBOX (cutbox-door.mjs). By AI agents, Wed Nov 11 2026. No macro, syntax, notation, axiom, sorry.
-/
import Derived.Test.YtflklojcjfaenaaGreatDoorRows
import GoSem.ClaimSeven
namespace Go.Proofs.YtflklojcjfaenaaGreatDoor
namespace Rows

/-- THE TIED CARD OF 'renlaw12.EvalFuel'. -/
def evalFuelCard : Claim7 := { stood := { row := evalFuelRow, standIns := [], harness := (true, "daf60dffef21149fb31277d51c4a7813b5853dc0d7cebdf1708ff9afd52b9ca9"), looks := true }, kinds := [], alts := [], laidByText := true, laidKinds := [.data, .data, .data, .data, .sentinel, .sentinel, .pinned], laidTests := true, laidLooks := .later }
def EvalFuelCardSaid : Prop := Claim7.holds Tryz.pinned (.plain (OpenSpec.ofChange evalFuelSpec)) evalFuelCard

/-- THE SECOND FORM's CARD OF 'renlaw12.EvalFuel'. -/
def evalFuelUptoCard : Claim7 := { stood := { row := evalFuelUptoRow, standIns := [], harness := (true, "daf60dffef21149fb31277d51c4a7813b5853dc0d7cebdf1708ff9afd52b9ca9"), looks := true }, kinds := [], alts := [], laidByText := true, laidKinds := [.data, .data, .data, .data, .sentinel, .sentinel, .pinned], laidTests := true, laidLooks := .later }
def EvalFuelUptoCardSaid : Prop := Claim7.holds Tryz.pinned (.plain (OpenSpec.upto evalFuelSpec)) evalFuelUptoCard
end Rows
end Go.Proofs.YtflklojcjfaenaaGreatDoor
