/-
  Proved here: the law renlaw25.JudgeCells returns true for every input of the stated bulk and leaves its arguments as they were; no further condition.
  By an AI agent; no person has read it.
-/
import Derived.Test.YtjfbodbfjhgffaaGreatDoorPjbf
import Derived.Test.YtjfbodbfjhgffaaGreatDoorPjbo
set_option linter.all false
set_option linter.deprecated false
set_option maxRecDepth 100000
namespace Go.Proofs.YtjfbodbfjhgffaaGreatDoor.judgeCells
open Go.Mach Go.ChangeShapes Go.WideShapes Go.ChangeAt Go.RowKit
theorem k0:Rows.judgeCellsUptoRow.wf (OpenSpec.ofChange (Rows.OpenSpec.upto Rows.judgeCellsSpec).bare)=true:=by kernel_rfl
theorem k1:laidOutB Tryz.prog=true:=laid
theorem k2:mapsRowed Tryz.prog=true:=by kernel_rfl
theorem k3:Tryz.f4.params.all (Tryz.prog.readableRec ·)=true:=by kernel_rfl
theorem k4:namedTie Tryz.prog Rows.judgeCellsUptoRow.named (Rows.OpenSpec.upto Rows.judgeCellsSpec).bare.vars=true:=by kernel_rfl
theorem k5:(Rows.judgeCellsUptoRow.stops == [])=true:=by kernel_rfl
theorem k6:(Tryz.prog.stops == [])=true:=by kernel_rfl
theorem k7:(Rows.judgeCellsUptoRow.knobs == [])=true:=by kernel_rfl
theorem k8:(Tryz.prog.stopKnobs == [])=true:=by kernel_rfl
theorem k13:(Rows.judgeCellsUptoRow.maps == (Tryz.f4.params.toList++(Rows.OpenSpec.upto Rows.judgeCellsSpec).bare.plain.varTypes Tryz.prog).any (Tryz.prog.mapsRec ·))=true:=by kernel_rfl
theorem k14:(Rows.judgeCellsUptoRow.ifaces == (Tryz.f4.params.toList++(Rows.OpenSpec.upto Rows.judgeCellsSpec).bare.plain.varTypes Tryz.prog).any (Tryz.prog.ifacesRec ·))=true:=by kernel_rfl
theorem k15:(Rows.judgeCellsUptoRow.mapsOut == Tryz.prog.mapsAmong Tryz.f4.resultTypes.toList)=true:=by kernel_rfl
theorem k16:(Rows.judgeCellsUptoRow.loops == (Tryz.f4.params.toList++(Rows.OpenSpec.upto Rows.judgeCellsSpec).bare.plain.varTypes Tryz.prog).any (Tryz.prog.loopsFrom ·))=true:=by kernel_rfl
theorem k17:(Rows.judgeCellsUptoRow.wideKeys == (Tryz.f4.params.toList++(Rows.OpenSpec.upto Rows.judgeCellsSpec).bare.plain.varTypes Tryz.prog++Tryz.f4.resultTypes.toList).any (Tryz.prog.wideKeysFrom ·))=true:=by kernel_rfl
theorem k18:(Rows.OpenSpec.upto Rows.judgeCellsSpec).bare.vars.all (Tryz.prog.varReadable ·)=true:=by kernel_rfl
theorem k19:Tryz.f4.resultTypes.all (λt=>Tryz.prog.readableRec t && decide (t < Tryz.prog.types.size))=true:=by kernel_rfl
theorem k20:(Rows.judgeCellsUptoRow.ifacesOut == Tryz.f4.resultTypes.toList.any (Tryz.prog.ifacesRec ·))=true:=by kernel_rfl
theorem k21:(Rows.judgeCellsUptoRow.loopsOut == Tryz.f4.resultTypes.toList.any (Tryz.prog.loopsFrom ·))=true:=by kernel_rfl
theorem k22:(Rows.judgeCellsUptoRow.plainKeys == Tryz.prog.plainKeys)=true:=by kernel_rfl
theorem k23:Rows.judgeCellsUptoRow.shortTexts.isNone=true:=by kernel_rfl
theorem k24:Tryz.prog.stopsHeard=true:=by kernel_rfl
theorem k25:Tryz.prog.mayEnter=true:=by kernel_rfl
theorem k26:(Rows.judgeCellsUptoRow.lifted == Tryz.prog.liftsFinal)=true:=by kernel_rfl
theorem k27:(Tryz.prog.make == some Rows.judgeCellsUptoRow.make)=true:=by kernel_rfl
theorem k28:(Rows.judgeCellsUptoRow.kinds == (if Rows.judgeCellsUptoRow.domain.isEmpty then [] else Tryz.f4.params.toList.map λt=>match Tryz.prog.underlying t with|some (.int k)=>some k|_=>none))=true:=by kernel_rfl
theorem k29:(Rows.judgeCellsUptoRow.pinned == Rows.judgeCellsUptoRow.pinnedBy)=true:=by kernel_rfl
theorem k30:(Rows.judgeCellsUptoRow.veiled == (Tryz.f4.params.toList++(Rows.OpenSpec.upto Rows.judgeCellsSpec).bare.plain.varTypes Tryz.prog++Tryz.f4.resultTypes.toList).any (Tryz.prog.veiledRec ·))=true:=by kernel_rfl
theorem k31:Rows.judgeCellsUptoRow.veiledFits Tryz.prog Tryz.f4.params.toList (Tryz.f4.params.toList++(Rows.OpenSpec.upto Rows.judgeCellsSpec).bare.plain.varTypes Tryz.prog++Tryz.f4.resultTypes.toList)=true:=by kernel_rfl
theorem t2{a b:Bool}(h:a=true)(h2:b=true):(a && b)=true:=by rw [h,h2];rfl
theorem closed:joinedFacts Tryz.prog 4 Tryz.f4 (Rows.OpenSpec.upto Rows.judgeCellsSpec).bare Rows.judgeCellsUptoRow=true:=(t2 (t2 (t2 (t2 (t2 (t2 (t2 (t2 (t2 (t2 (t2 (t2 (t2 (t2 (t2 (t2 (t2 (t2 (t2 (t2 (t2 (t2 (t2 (t2 (t2 (t2 (t2 (t2 (t2 (t2 (t2 k0 k1) k2) k3) k4) k5) k6) k7) k8) k9) k10) k11) k12) k13) k14) k15) k16) k17) k18) k19) k20) k21) k22) k23) k24) k25) k26) k27) k28) k29) k30) k31)
theorem noGoes:Tryz.prog.funcs.any Func.goes=false:=by kernel_rfl
end Go.Proofs.YtjfbodbfjhgffaaGreatDoor.judgeCells

