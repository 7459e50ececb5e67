/-
  DERIVED. GIVEN WITH THE SEED: THE CARDS: each row of YtfmfdkbpemiocaaGreatDoorRows.lean that lists a variable, with what it lists TIED to the program's text (the seventh form; the later family's looks); each row that meets fmt, with fmt's text TOLD by the authors' own Lean function (tested against real Go, not proved from fmt's source: count such statements apart). THE CARD IS WHAT COUNTS. Prove the row's statement (the work); the ties are given (YtfmfdkbpemiocaaGreatDoorTie.lean); close each card by the builder's one call (the guide's Derived/Test/ToyasCard.lean, 'card_holds'). Laid BY PROGRAM, IN A SANDBOX (cutbox-door.mjs). By AI agents, Wed Nov 11 2026. No macro, syntax, notation, axiom, sorry.
-/
import Derived.Test.YtfmfdkbpemiocaaGreatDoorRows
import GoSem.ClaimSeven
namespace Go.Proofs.YtfmfdkbpemiocaaGreatDoor
namespace Rows

/-- THE TIED CARD OF 'renlaw12.EvalOnce'. -/
def evalOnceCard : Claim7 := { stood := { row := evalOnceRow, standIns := [], harness := (true, "c29c1219016f61f1cffb25701d5eab4aa5f7fa5c4f8a258a6b38693d803b7b13"), looks := true }, kinds := [], alts := [], laidByText := true, laidKinds := [.data, .data, .data, .data, .sentinel, .sentinel, .pinned], laidTests := true, laidLooks := .later }
def EvalOnceCardSaid : Prop := Claim7.holds Tryz.pinned (.plain (OpenSpec.ofChange evalOnceSpec)) evalOnceCard

/-- THE TIED CARD OF 'renlaw13.AgentRefuses'. -/
def agentRefusesCard : Claim7 := { stood := { row := agentRefusesRow, standIns := [], harness := (true, "c29c1219016f61f1cffb25701d5eab4aa5f7fa5c4f8a258a6b38693d803b7b13"), looks := true }, kinds := [], alts := [], laidByText := true, laidKinds := [.data, .data, .data, .data, .sentinel, .sentinel, .pinned], laidTests := true, laidLooks := .later }
def AgentRefusesCardSaid : Prop := Claim7.holds Tryz.pinned (.plain (OpenSpec.ofChange agentRefusesSpec)) agentRefusesCard

/-- THE TIED CARD OF 'renlaw13.AgentIs'. -/
def agentIsCard : Claim7 := { stood := { row := agentIsRow, standIns := [], harness := (true, "c29c1219016f61f1cffb25701d5eab4aa5f7fa5c4f8a258a6b38693d803b7b13"), looks := true }, kinds := [], alts := [], laidByText := true, laidKinds := [.data, .data, .data, .data, .sentinel, .sentinel, .pinned], laidTests := true, laidLooks := .later }
def AgentIsCardSaid : Prop := Claim7.holds Tryz.pinned (.plain (OpenSpec.ofChange agentIsSpec)) agentIsCard

/-- THE TIED CARD OF 'renlaw13.AgentApart'. -/
def agentApartCard : Claim7 := { stood := { row := agentApartRow, standIns := [], harness := (true, "c29c1219016f61f1cffb25701d5eab4aa5f7fa5c4f8a258a6b38693d803b7b13"), looks := true }, kinds := [], alts := [], laidByText := true, laidKinds := [.data, .data, .data, .data, .sentinel, .sentinel, .pinned], laidTests := true, laidLooks := .later }
def AgentApartCardSaid : Prop := Claim7.holds Tryz.pinned (.plain (OpenSpec.ofChange agentApartSpec)) agentApartCard

/-- THE SECOND FORM's CARD OF 'renlaw12.EvalOnce'. -/
def evalOnceUptoCard : Claim7 := { stood := { row := evalOnceUptoRow, standIns := [], harness := (true, "c29c1219016f61f1cffb25701d5eab4aa5f7fa5c4f8a258a6b38693d803b7b13"), looks := true }, kinds := [], alts := [], laidByText := true, laidKinds := [.data, .data, .data, .data, .sentinel, .sentinel, .pinned], laidTests := true, laidLooks := .later }
def EvalOnceUptoCardSaid : Prop := Claim7.holds Tryz.pinned (.plain (OpenSpec.upto evalOnceSpec)) evalOnceUptoCard

/-- THE SECOND FORM's CARD OF 'renlaw13.AgentRefuses'. -/
def agentRefusesUptoCard : Claim7 := { stood := { row := agentRefusesUptoRow, standIns := [], harness := (true, "c29c1219016f61f1cffb25701d5eab4aa5f7fa5c4f8a258a6b38693d803b7b13"), looks := true }, kinds := [], alts := [], laidByText := true, laidKinds := [.data, .data, .data, .data, .sentinel, .sentinel, .pinned], laidTests := true, laidLooks := .later }
def AgentRefusesUptoCardSaid : Prop := Claim7.holds Tryz.pinned (.plain (OpenSpec.upto agentRefusesSpec)) agentRefusesUptoCard

/-- THE SECOND FORM's CARD OF 'renlaw13.AgentIs'. -/
def agentIsUptoCard : Claim7 := { stood := { row := agentIsUptoRow, standIns := [], harness := (true, "c29c1219016f61f1cffb25701d5eab4aa5f7fa5c4f8a258a6b38693d803b7b13"), looks := true }, kinds := [], alts := [], laidByText := true, laidKinds := [.data, .data, .data, .data, .sentinel, .sentinel, .pinned], laidTests := true, laidLooks := .later }
def AgentIsUptoCardSaid : Prop := Claim7.holds Tryz.pinned (.plain (OpenSpec.upto agentIsSpec)) agentIsUptoCard

/-- THE SECOND FORM's CARD OF 'renlaw13.AgentApart'. -/
def agentApartUptoCard : Claim7 := { stood := { row := agentApartUptoRow, standIns := [], harness := (true, "c29c1219016f61f1cffb25701d5eab4aa5f7fa5c4f8a258a6b38693d803b7b13"), looks := true }, kinds := [], alts := [], laidByText := true, laidKinds := [.data, .data, .data, .data, .sentinel, .sentinel, .pinned], laidTests := true, laidLooks := .later }
def AgentApartUptoCardSaid : Prop := Claim7.holds Tryz.pinned (.plain (OpenSpec.upto agentApartSpec)) agentApartUptoCard
end Rows
end Go.Proofs.YtfmfdkbpemiocaaGreatDoor
