/-
  DERIVED. GIVEN WITH THE SEED: THE CARDS: each row of YtimhplnifencnaaGreatDoorRows.lean that lists a variable, with what it lists TIED to the program's text (the seventh form; the later family's looks); each row that meets fmt, with fmt's text TOLD by the authors' own Lean function (tested against real Go, not proved from fmt's source: count such statements apart). THE CARD IS WHAT COUNTS. Prove the row's statement (the work); the ties are given (YtimhplnifencnaaGreatDoorTie.lean); close each card by the builder's one call (the guide's Derived/Test/ToyasCard.lean, 'card_holds'). Laid BY PROGRAM, IN A SANDBOX (cutbox-door.mjs). By AI agents, Wed Nov 11 2026. No macro, syntax, notation, axiom, sorry.
-/
import Derived.Test.YtimhplnifencnaaGreatDoorRows
import GoSem.ClaimSeven
namespace Go.Proofs.YtimhplnifencnaaGreatDoor
namespace Rows

/-- THE TIED CARD OF 'renlaw12.EvalOpers'. -/
def evalOpersCard : Claim7 := { stood := { row := evalOpersRow, standIns := [], harness := (true, "faf6e066d695812d0b73c236b0de87ed5100b68119a201d8ecb0181bcb1fca5b"), looks := true }, kinds := [], alts := [], laidByText := true, laidKinds := [.data, .data, .data, .data, .sentinel, .sentinel, .pinned], laidTests := true, laidLooks := .later }
def EvalOpersCardSaid : Prop := Claim7.holds Tryz.pinned (.plain (OpenSpec.ofChange evalOpersSpec)) evalOpersCard

/-- THE TIED CARD OF 'renlaw12.EvalUnaries'. -/
def evalUnariesCard : Claim7 := { stood := { row := evalUnariesRow, standIns := [], harness := (true, "faf6e066d695812d0b73c236b0de87ed5100b68119a201d8ecb0181bcb1fca5b"), looks := true }, kinds := [], alts := [], laidByText := true, laidKinds := [.data, .data, .data, .data, .sentinel, .sentinel, .pinned], laidTests := true, laidLooks := .later }
def EvalUnariesCardSaid : Prop := Claim7.holds Tryz.pinned (.plain (OpenSpec.ofChange evalUnariesSpec)) evalUnariesCard

/-- THE TIED CARD OF 'renlaw12.EvalChooses'. -/
def evalChoosesCard : Claim7 := { stood := { row := evalChoosesRow, standIns := [], harness := (true, "faf6e066d695812d0b73c236b0de87ed5100b68119a201d8ecb0181bcb1fca5b"), looks := true }, kinds := [], alts := [], laidByText := true, laidKinds := [.data, .data, .data, .data, .sentinel, .sentinel, .pinned], laidTests := true, laidLooks := .later }
def EvalChoosesCardSaid : Prop := Claim7.holds Tryz.pinned (.plain (OpenSpec.ofChange evalChoosesSpec)) evalChoosesCard

/-- THE TIED CARD OF 'renlaw12.EvalElements'. -/
def evalElementsCard : Claim7 := { stood := { row := evalElementsRow, standIns := [], harness := (true, "faf6e066d695812d0b73c236b0de87ed5100b68119a201d8ecb0181bcb1fca5b"), looks := true }, kinds := [], alts := [], laidByText := true, laidKinds := [.data, .data, .data, .data, .sentinel, .sentinel, .pinned], laidTests := true, laidLooks := .later }
def EvalElementsCardSaid : Prop := Claim7.holds Tryz.pinned (.plain (OpenSpec.ofChange evalElementsSpec)) evalElementsCard

/-- THE TIED CARD OF 'renlaw12.EvalNames'. -/
def evalNamesCard : Claim7 := { stood := { row := evalNamesRow, standIns := [], harness := (true, "faf6e066d695812d0b73c236b0de87ed5100b68119a201d8ecb0181bcb1fca5b"), looks := true }, kinds := [], alts := [], laidByText := true, laidKinds := [.data, .data, .data, .data, .sentinel, .sentinel, .pinned], laidTests := true, laidLooks := .later }
def EvalNamesCardSaid : Prop := Claim7.holds Tryz.pinned (.plain (OpenSpec.ofChange evalNamesSpec)) evalNamesCard

/-- THE TIED CARD OF 'renlaw12.EvalThrows'. -/
def evalThrowsCard : Claim7 := { stood := { row := evalThrowsRow, standIns := [], harness := (true, "faf6e066d695812d0b73c236b0de87ed5100b68119a201d8ecb0181bcb1fca5b"), looks := true }, kinds := [], alts := [], laidByText := true, laidKinds := [.data, .data, .data, .data, .sentinel, .sentinel, .pinned], laidTests := true, laidLooks := .later }
def EvalThrowsCardSaid : Prop := Claim7.holds Tryz.pinned (.plain (OpenSpec.ofChange evalThrowsSpec)) evalThrowsCard

/-- THE TIED CARD OF 'renlaw12.EvalArrays'. -/
def evalArraysCard : Claim7 := { stood := { row := evalArraysRow, standIns := [], harness := (true, "faf6e066d695812d0b73c236b0de87ed5100b68119a201d8ecb0181bcb1fca5b"), looks := true }, kinds := [], alts := [], laidByText := true, laidKinds := [.data, .data, .data, .data, .sentinel, .sentinel, .pinned], laidTests := true, laidLooks := .later }
def EvalArraysCardSaid : Prop := Claim7.holds Tryz.pinned (.plain (OpenSpec.ofChange evalArraysSpec)) evalArraysCard

/-- THE SECOND FORM's CARD OF 'renlaw12.EvalOpers'. -/
def evalOpersUptoCard : Claim7 := { stood := { row := evalOpersUptoRow, standIns := [], harness := (true, "faf6e066d695812d0b73c236b0de87ed5100b68119a201d8ecb0181bcb1fca5b"), looks := true }, kinds := [], alts := [], laidByText := true, laidKinds := [.data, .data, .data, .data, .sentinel, .sentinel, .pinned], laidTests := true, laidLooks := .later }
def EvalOpersUptoCardSaid : Prop := Claim7.holds Tryz.pinned (.plain (OpenSpec.upto evalOpersSpec)) evalOpersUptoCard

/-- THE SECOND FORM's CARD OF 'renlaw12.EvalUnaries'. -/
def evalUnariesUptoCard : Claim7 := { stood := { row := evalUnariesUptoRow, standIns := [], harness := (true, "faf6e066d695812d0b73c236b0de87ed5100b68119a201d8ecb0181bcb1fca5b"), looks := true }, kinds := [], alts := [], laidByText := true, laidKinds := [.data, .data, .data, .data, .sentinel, .sentinel, .pinned], laidTests := true, laidLooks := .later }
def EvalUnariesUptoCardSaid : Prop := Claim7.holds Tryz.pinned (.plain (OpenSpec.upto evalUnariesSpec)) evalUnariesUptoCard

/-- THE SECOND FORM's CARD OF 'renlaw12.EvalChooses'. -/
def evalChoosesUptoCard : Claim7 := { stood := { row := evalChoosesUptoRow, standIns := [], harness := (true, "faf6e066d695812d0b73c236b0de87ed5100b68119a201d8ecb0181bcb1fca5b"), looks := true }, kinds := [], alts := [], laidByText := true, laidKinds := [.data, .data, .data, .data, .sentinel, .sentinel, .pinned], laidTests := true, laidLooks := .later }
def EvalChoosesUptoCardSaid : Prop := Claim7.holds Tryz.pinned (.plain (OpenSpec.upto evalChoosesSpec)) evalChoosesUptoCard

/-- THE SECOND FORM's CARD OF 'renlaw12.EvalElements'. -/
def evalElementsUptoCard : Claim7 := { stood := { row := evalElementsUptoRow, standIns := [], harness := (true, "faf6e066d695812d0b73c236b0de87ed5100b68119a201d8ecb0181bcb1fca5b"), looks := true }, kinds := [], alts := [], laidByText := true, laidKinds := [.data, .data, .data, .data, .sentinel, .sentinel, .pinned], laidTests := true, laidLooks := .later }
def EvalElementsUptoCardSaid : Prop := Claim7.holds Tryz.pinned (.plain (OpenSpec.upto evalElementsSpec)) evalElementsUptoCard

/-- THE SECOND FORM's CARD OF 'renlaw12.EvalNames'. -/
def evalNamesUptoCard : Claim7 := { stood := { row := evalNamesUptoRow, standIns := [], harness := (true, "faf6e066d695812d0b73c236b0de87ed5100b68119a201d8ecb0181bcb1fca5b"), looks := true }, kinds := [], alts := [], laidByText := true, laidKinds := [.data, .data, .data, .data, .sentinel, .sentinel, .pinned], laidTests := true, laidLooks := .later }
def EvalNamesUptoCardSaid : Prop := Claim7.holds Tryz.pinned (.plain (OpenSpec.upto evalNamesSpec)) evalNamesUptoCard

/-- THE SECOND FORM's CARD OF 'renlaw12.EvalThrows'. -/
def evalThrowsUptoCard : Claim7 := { stood := { row := evalThrowsUptoRow, standIns := [], harness := (true, "faf6e066d695812d0b73c236b0de87ed5100b68119a201d8ecb0181bcb1fca5b"), looks := true }, kinds := [], alts := [], laidByText := true, laidKinds := [.data, .data, .data, .data, .sentinel, .sentinel, .pinned], laidTests := true, laidLooks := .later }
def EvalThrowsUptoCardSaid : Prop := Claim7.holds Tryz.pinned (.plain (OpenSpec.upto evalThrowsSpec)) evalThrowsUptoCard

/-- THE SECOND FORM's CARD OF 'renlaw12.EvalArrays'. -/
def evalArraysUptoCard : Claim7 := { stood := { row := evalArraysUptoRow, standIns := [], harness := (true, "faf6e066d695812d0b73c236b0de87ed5100b68119a201d8ecb0181bcb1fca5b"), looks := true }, kinds := [], alts := [], laidByText := true, laidKinds := [.data, .data, .data, .data, .sentinel, .sentinel, .pinned], laidTests := true, laidLooks := .later }
def EvalArraysUptoCardSaid : Prop := Claim7.holds Tryz.pinned (.plain (OpenSpec.upto evalArraysSpec)) evalArraysUptoCard
end Rows
end Go.Proofs.YtimhplnifencnaaGreatDoor
