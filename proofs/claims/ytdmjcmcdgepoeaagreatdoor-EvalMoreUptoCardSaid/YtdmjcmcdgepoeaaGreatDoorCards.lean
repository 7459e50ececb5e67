/-
  DERIVED. GIVEN WITH THE SEED: THE CARDS: each row of YtdmjcmcdgepoeaaGreatDoorRows.lean that lists a variable, with what it lists TIED to the program's text (the seventh form; the later family's looks); each row that meets fmt, with fmt's text TOLD by the authors' own Lean function (tested against real Go, not proved from fmt's source: count such statements apart). THE CARD IS WHAT COUNTS. Prove the row's statement (the work); the ties are given (YtdmjcmcdgepoeaaGreatDoorTie.lean); close each card by the builder's one call (the guide's Derived/Test/ToyasCard.lean, 'card_holds'). Laid BY PROGRAM, IN A SANDBOX (cutbox-door.mjs). By AI agents, Wed Nov 11 2026. No macro, syntax, notation, axiom, sorry.
-/
import Derived.Test.YtdmjcmcdgepoeaaGreatDoorRows
import GoSem.ClaimSeven
namespace Go.Proofs.YtdmjcmcdgepoeaaGreatDoor
namespace Rows

/-- THE TIED CARD OF 'renlaw12.EvalElements'. -/
def evalElementsCard : Claim7 := { stood := { row := evalElementsRow, standIns := [], harness := (true, "e0acc162959b875d6b075b5208a17fb50b9e5897f9deb18718261711200afa13"), looks := true }, kinds := [], alts := [], laidByText := true, laidKinds := [.data, .data, .data, .data, .sentinel, .sentinel, .pinned], laidTests := true, laidLooks := .later }
def EvalElementsCardSaid : Prop := Claim7.holds Tryz.pinned (.plain (OpenSpec.ofChange evalElementsSpec)) evalElementsCard

/-- THE TIED CARD OF 'renlaw12.EvalWithin'. -/
def evalWithinCard : Claim7 := { stood := { row := evalWithinRow, standIns := [], harness := (true, "e0acc162959b875d6b075b5208a17fb50b9e5897f9deb18718261711200afa13"), looks := true }, kinds := [], alts := [], laidByText := true, laidKinds := [.data, .data, .data, .data, .sentinel, .sentinel, .pinned], laidTests := true, laidLooks := .later }
def EvalWithinCardSaid : Prop := Claim7.holds Tryz.pinned (.plain (OpenSpec.ofChange evalWithinSpec)) evalWithinCard

/-- THE TIED CARD OF 'renlaw12.EvalOnce'. -/
def evalOnceCard : Claim7 := { stood := { row := evalOnceRow, standIns := [], harness := (true, "e0acc162959b875d6b075b5208a17fb50b9e5897f9deb18718261711200afa13"), looks := true }, kinds := [], alts := [], laidByText := true, laidKinds := [.data, .data, .data, .data, .sentinel, .sentinel, .pinned], laidTests := true, laidLooks := .later }
def EvalOnceCardSaid : Prop := Claim7.holds Tryz.pinned (.plain (OpenSpec.ofChange evalOnceSpec)) evalOnceCard

/-- THE TIED CARD OF 'renlaw12.EvalMore'. -/
def evalMoreCard : Claim7 := { stood := { row := evalMoreRow, standIns := [], harness := (true, "e0acc162959b875d6b075b5208a17fb50b9e5897f9deb18718261711200afa13"), looks := true }, kinds := [], alts := [], laidByText := true, laidKinds := [.data, .data, .data, .data, .sentinel, .sentinel, .pinned], laidTests := true, laidLooks := .later }
def EvalMoreCardSaid : Prop := Claim7.holds Tryz.pinned (.plain (OpenSpec.ofChange evalMoreSpec)) evalMoreCard

/-- THE TIED CARD OF 'renlaw12.EvalFurther'. -/
def evalFurtherCard : Claim7 := { stood := { row := evalFurtherRow, standIns := [], harness := (true, "e0acc162959b875d6b075b5208a17fb50b9e5897f9deb18718261711200afa13"), looks := true }, kinds := [], alts := [], laidByText := true, laidKinds := [.data, .data, .data, .data, .sentinel, .sentinel, .pinned], laidTests := true, laidLooks := .later }
def EvalFurtherCardSaid : Prop := Claim7.holds Tryz.pinned (.plain (OpenSpec.ofChange evalFurtherSpec)) evalFurtherCard

/-- THE SECOND FORM's CARD OF 'renlaw12.EvalElements'. -/
def evalElementsUptoCard : Claim7 := { stood := { row := evalElementsUptoRow, standIns := [], harness := (true, "e0acc162959b875d6b075b5208a17fb50b9e5897f9deb18718261711200afa13"), looks := true }, kinds := [], alts := [], laidByText := true, laidKinds := [.data, .data, .data, .data, .sentinel, .sentinel, .pinned], laidTests := true, laidLooks := .later }
def EvalElementsUptoCardSaid : Prop := Claim7.holds Tryz.pinned (.plain (OpenSpec.upto evalElementsSpec)) evalElementsUptoCard

/-- THE SECOND FORM's CARD OF 'renlaw12.EvalWithin'. -/
def evalWithinUptoCard : Claim7 := { stood := { row := evalWithinUptoRow, standIns := [], harness := (true, "e0acc162959b875d6b075b5208a17fb50b9e5897f9deb18718261711200afa13"), looks := true }, kinds := [], alts := [], laidByText := true, laidKinds := [.data, .data, .data, .data, .sentinel, .sentinel, .pinned], laidTests := true, laidLooks := .later }
def EvalWithinUptoCardSaid : Prop := Claim7.holds Tryz.pinned (.plain (OpenSpec.upto evalWithinSpec)) evalWithinUptoCard

/-- THE SECOND FORM's CARD OF 'renlaw12.EvalOnce'. -/
def evalOnceUptoCard : Claim7 := { stood := { row := evalOnceUptoRow, standIns := [], harness := (true, "e0acc162959b875d6b075b5208a17fb50b9e5897f9deb18718261711200afa13"), looks := true }, kinds := [], alts := [], laidByText := true, laidKinds := [.data, .data, .data, .data, .sentinel, .sentinel, .pinned], laidTests := true, laidLooks := .later }
def EvalOnceUptoCardSaid : Prop := Claim7.holds Tryz.pinned (.plain (OpenSpec.upto evalOnceSpec)) evalOnceUptoCard

/-- THE SECOND FORM's CARD OF 'renlaw12.EvalMore'. -/
def evalMoreUptoCard : Claim7 := { stood := { row := evalMoreUptoRow, standIns := [], harness := (true, "e0acc162959b875d6b075b5208a17fb50b9e5897f9deb18718261711200afa13"), looks := true }, kinds := [], alts := [], laidByText := true, laidKinds := [.data, .data, .data, .data, .sentinel, .sentinel, .pinned], laidTests := true, laidLooks := .later }
def EvalMoreUptoCardSaid : Prop := Claim7.holds Tryz.pinned (.plain (OpenSpec.upto evalMoreSpec)) evalMoreUptoCard

/-- THE SECOND FORM's CARD OF 'renlaw12.EvalFurther'. -/
def evalFurtherUptoCard : Claim7 := { stood := { row := evalFurtherUptoRow, standIns := [], harness := (true, "e0acc162959b875d6b075b5208a17fb50b9e5897f9deb18718261711200afa13"), looks := true }, kinds := [], alts := [], laidByText := true, laidKinds := [.data, .data, .data, .data, .sentinel, .sentinel, .pinned], laidTests := true, laidLooks := .later }
def EvalFurtherUptoCardSaid : Prop := Claim7.holds Tryz.pinned (.plain (OpenSpec.upto evalFurtherSpec)) evalFurtherUptoCard
end Rows
end Go.Proofs.YtdmjcmcdgepoeaaGreatDoor
