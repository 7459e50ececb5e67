/-
  Proved here: the law renlaw12.EvalOnce returns true for every input of the stated bulk and leaves its arguments as they were; no further condition.
  By an AI agent; no person has read it.
-/
import Derived.Test.YtfmfdkbpemiocaaGreatDoorQaf
import Derived.KernelRfl
import Derived.Test.YtfmfdkbpemiocaaGreatDoorProg
set_option linter.all false
set_option linter.deprecated false
set_option linter.unusedVariables false
set_option maxRecDepth 100000
namespace Go.Mach
open Go.Proofs
theorem cC.eq:Eqn (Q L6) cC.spec (zA 0x4bc14fc101422100059b148b1014225481e871588b10014310211d843224819248200811211c8732238328192483002430000869143810143111):=eqn Tryz.f89
theorem dJ.eq:Eqn (Q L7) dJ.spec (zA 0x271e1461e10142111111000182c14bc10142213121211100022916a181014311):=eqn Tryz.f330
theorem gR.eq:Eqn (Q (bL.spec::L2)) gR.spec (zA 0xc8ac14ed1014221000683a141b101422122101910902ca58352041100ca5844202200ca582214305152311):=eqn Tryz.f137
theorem ga.eq:Eqn (Q L9) ga.spec (zA 0x2fd14ed10142111111111111100069a148a1014310004e914d9101430007a814191014223121211):=eqn Tryz.f280
theorem fc.eq:Eqn (Q L7) fc.spec (zA 0x680e1470e10142100067d146d10143000483c14fc101421213122111111):=eqn Tryz.f279
theorem parse_parser_level.eq(G:bl):Eqn (Q (ib G++L5)) (parse_parser_level.g.sp 265 λx=>R.parse_parser_level G x.1 x.2) (zA 0x383602f8181720210383602f8181720522111):=eqn Tryz.f265
theorem eval_run_block.eq(G:af):Eqn (Q (eu G++L10)) (eval_run_block.g.sp 151 λx=>R.eval_run_block G x.1 x.2.1 x.2.2) (zA 0x12212184322d90810121173322383d8082002421):=eqn Tryz.f151
theorem eK.eq:Eqn (Q L6) eK.spec (zA 0x1112811d8c812820211112811c8d8128206915212000483814f81014231):=eqn Tryz.f355
theorem eH.eq:Eqn (Q L1) eH.spec (zA 0x68e8121534203210068e813233051220058f81323301905252121000a80814291014231):=eqn Tryz.f310
theorem ae.eq:Eqn (Q L3) ae.spec (zA 0x38316205110038325202200284252018152121):=eqn Tryz.f186
theorem fW.eq:Eqn (Q L0) fW.spec (zA 0x48312153426a3210048313233ca5122003841323306ca52521211):=eqn Tryz.f170
theorem jd.eq:Eqn (Q L0) jd.spec (zA 0x58312153420321005831323305122004841323306052521211):=eqn Tryz.f204
theorem ec.eq:Eqn (Q L0) ec.spec (zA 0x384147810142211109841ea112111109841ea115221):=eqn Tryz.f124
theorem iH.eq:Eqn (Q L2) iH.spec (zA 0x35812811014200067146101431):=eqn Tryz.f449
theorem b9.eq:Eqn (Q L0) b9.spec (zA 0x2901d8423202102901d808102032521):=eqn Tryz.f126
theorem dw.eq:Eqn (Q L4) dw.spec (zA 0x55914a9101421211):=eqn Tryz.f42
theorem ju.eq:Eqn (Q L8) ju.spec .none:=eqn Tryz.f315
theorem gI.eq:Eqn (Q L2) gI.spec (zA 0x88614e81014221):=eqn Tryz.f423
theorem gP.eq:Eqn (Q (ax.spec::L4)) gP.spec .none:=eqn Tryz.f132
theorem lN.eq:Eqn (Q L2) lN.spec .none:=eqn Tryz.f76
theorem jG.eq:Eqn (Q L9) jG.spec .none:=eqn Tryz.f29
theorem fN.eq:Eqn (Q L1) fN.spec .none:=eqn Tryz.f370
theorem cB.eq:Eqn (Q L2) cB.spec .none:=eqn Tryz.f362
theorem ai.eq:Eqn (Q L3) ai.spec .none:=eqn Tryz.f172
theorem iM.eq:Eqn (Q L3) iM.spec .none:=eqn Tryz.f228
theorem al.eq:Eqn (Q L1) al.spec .none:=eqn Tryz.f65
theorem ly.eq:Eqn (Q L2) ly.spec .none:=eqn Tryz.f92
theorem cG.eq:Eqn (Q L1) cG.spec .none:=eqn Tryz.f375
theorem eO.eq:Eqn (Q L0) eO.spec .none:=eqn Tryz.f108
theorem bB.eq:Eqn (Q L0) bB.spec .none:=eqn Tryz.f94
theorem bP.eq:Eqn (Q L0) bP.spec .none:=eqn Tryz.f223
theorem ij.eq:Eqn (Q L0) ij.spec .none:=eqn Tryz.f159
theorem lD.eq:Eqn (Q L0) lD.spec .none:=eqn Tryz.f382
end Go.Mach

