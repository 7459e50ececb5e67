/-
  Shared texts of the proofs of the laws renlaw13.AgentRefuses, renlaw13.AgentIs and renlaw13.AgentApart: each returns true for every input of the stated bulk and leaves its arguments as they were; no further condition.
  By an AI agent; no person has read it.
-/
import Derived.Test.YtfmfdkbpemiocaaGreatDoorPaf
import Derived.KernelRfl
import Derived.Test.YtfmfdkbpemiocaaGreatDoorProg
set_option linter.all false
set_option linter.deprecated false
set_option linter.unusedVariables false
set_option maxRecDepth 100000
namespace Go.Mach
open Go.Proofs
theorem aH.eq(fu:Nat):Eqn (Q ((aH.spec fu)::L3)) (aH.g.sp 453 λx=>R.aH (fu+1) x.1 x.2.1 x.2.2.1 x.2.2.2.1 x.2.2.2.2) (zA 0x776e10e6e10142000795e1006e10142038016895e1001430007b4e1025e101420380168b4e10014310002961e121e832d81281002961e1092222d8252310001832e1222d820143111003801d83d1a82008103801d850e12a81521200009bb28822781610009bb198222278252311213003801e82a168204103801e80b126815212000f8b8248223812100f8b8158222238252311213):=eqn Tryz.f453
theorem jm.eq:Eqn (Q L0) jm.spec (zA 0x984a105b101422221161069991314303111610699914133094142161069d913224094252100048a8106910142221007888103111310c88810941024312211004b44420311004b432133094122003b5321332080942521211):=eqn Tryz.f49
theorem cr.eq:Eqn (Q L7) cr.spec (zA 0x1181181811999158205111811818109a9158226a1521200021a100a10143211122112216855832db38322283208112215831db38322210840222215831cb4832221084229152121):=eqn Tryz.f62
theorem gv.eq:Eqn (Q L1) gv.spec (zA 0x88081680a262041088081581a26227a1521200787198e82420210787188f82422391521311):=eqn Tryz.f146
theorem eval_run_operation.eq(G:ai):Eqn (Q (eO G++L10)) (eval_run_operation.g.sp 227 λx=>R.eval_run_operation G x.1 x.2.1 x.2.2.1 x.2.2.2) (zA 0x2b910a9101421121211):=eqn Tryz.f227
theorem parse_parser_level.eq(G:cK):Eqn (Q (kF G++L4)) (parse_parser_level.g.sp 265 λx=>R.parse_parser_level G x.1 x.2) (zA 0x83702f8181720210083702f8181720522111):=eqn Tryz.f265
theorem eval_run_block.eq(G:ai):Eqn (Q (eO G++L10)) (eval_run_block.g.sp 151 λx=>R.eval_run_block G x.1 x.2.1 x.2.2) (zA 0x12222a855832d9081012219845832383d8082002421):=eqn Tryz.f151
theorem eW.eq:Eqn (Q L6) eW.spec (zA 0x583810281014222216865832083e82822081100285682822181024211):=eqn Tryz.f354
theorem fZ.eq:Eqn (Q L1) fZ.spec (zA 0x68e8121530223210068e813233251220058f81323321925252121000a80810291014231):=eqn Tryz.f310
theorem fc.eq:Eqn (Q L7) fc.spec (zA 0xb818148a10014211111):=eqn Tryz.f412
theorem aw.eq:Eqn (Q L2) aw.spec (zA 0x38316225110038325202200284252218152121):=eqn Tryz.f237
theorem eT.eq:Eqn (Q L7) eT.spec (zA 0x888100910142122121):=eqn Tryz.f358
theorem dI.eq:Eqn (Q L0) dI.spec (zA 0x580816205110058082520220048182522681521211):=eqn Tryz.f218
theorem jU.eq:Eqn (Q L1) jU.spec (zA 0x8315203110008312133022007412133208152121):=eqn Tryz.f447
theorem jV.eq:Eqn (Q L5) jV.spec (zA 0x591810e91014221):=eqn Tryz.f56
theorem dh.eq:Eqn (Q L7) dh.spec .none:=eqn Tryz.f357
theorem jq.eq:Eqn (Q L2) jq.spec (zA 0x3291019101421111112121):=eqn Tryz.f435
theorem fh.eq:Eqn (Q L0) fh.spec (zA 0x7861221210078612215221):=eqn Tryz.f86
theorem de.eq:Eqn (Q L3) de.spec .none:=eqn Tryz.f64
theorem az.eq:Eqn (Q L1) az.spec .none:=eqn Tryz.f136
theorem fG.eq:Eqn (Q (az.spec::L2)) fG.spec .none:=eqn Tryz.f167
theorem bm.eq:Eqn (Q L1) bm.spec .none:=eqn Tryz.f366
theorem fU.eq:Eqn (Q L2) fU.spec .none:=eqn Tryz.f229
theorem kR.eq:Eqn (Q L2) kR.spec .none:=eqn Tryz.f399
theorem gE.eq:Eqn (Q L1) gE.spec .none:=eqn Tryz.f247
theorem jN.eq:Eqn (Q (ff.spec::L2)) jN.spec .none:=eqn Tryz.f334
theorem jR.eq:Eqn (Q L1) jR.spec .none:=eqn Tryz.f188
theorem jS.eq:Eqn (Q L1) jS.spec .none:=eqn Tryz.f8
theorem cM.eq:Eqn (Q L2) cM.spec .none:=eqn Tryz.f91
theorem ca.eq:Eqn (Q L0) ca.spec .none:=eqn Tryz.f113
theorem gn.eq:Eqn (Q L0) gn.spec .none:=eqn Tryz.f109
theorem jo.eq:Eqn (Q L0) jo.spec .none:=eqn Tryz.f393
theorem ke.eq:Eqn (Q L0) ke.spec .none:=eqn Tryz.f462
theorem mO.eq:Eqn (Q L0) mO.spec .none:=eqn Tryz.f40
end Go.Mach

