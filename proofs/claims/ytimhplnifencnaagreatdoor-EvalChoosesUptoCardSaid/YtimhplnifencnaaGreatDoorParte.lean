/-
  Proved here: the law renlaw12.EvalChooses returns true for every input of the stated bulk and leaves its arguments as they were; no further condition.
  By an AI agent; no person has read it.
-/
import Derived.Test.YtimhplnifencnaaGreatDoorPartd
import Derived.KernelRfl
import Derived.Test.YtimhplnifencnaaGreatDoorProg
set_option linter.all false
set_option linter.deprecated false
set_option linter.unusedVariables false
set_option maxRecDepth 100000
namespace Go.Mach
open Go.Proofs
theorem ec.eq : Eqn (Q [ae.spec, bF.spec, gz.spec, gD.spec, fU.spec, gH.spec]) ec.spec (.r (.two (.l (.loop ⟨[(0, (false, (.bor (.own .h))))], rg 11 11, [], []⟩ [(.ext 0, ⟨[(0, (false, (.bor (.own .h))))], rg 11 11, [], []⟩)] (.l (.l (.piece [(.nrm, ⟨[(19, vb)], rg 11 8, [], []⟩)] .none))))) (.two (.l (.loop ⟨[(0, (false, (.bor (.own .h))))], rg 22 17, [], []⟩ [(.ext 2, ⟨[(0, (false, (.bor (.own .h))))], rg 22 17, [], []⟩)] (.l (.l (.piece [(.nrm, ⟨[(33, vb)], rg 22 11, [], []⟩)] .none))))) (.r (.r (.r (.two (.piece [(.nrm, ⟨[(5, (false, (.bor (.own .h))))], rg 49 9, [], []⟩)] (.l (.piece [(.nrm, ⟨[(55, vb)], rg 49 6, [], []⟩)] .none))) (.r (.l (.piece [(.nrm, ⟨[(8, vb)], [9, 10] ++ rg 62 21 ++ [84, 85], [(7, (.box (.frz aS)))], []⟩), (.ret, ⟨[(3, vb)], [9, 10] ++ rg 62 4 ++ rg 67 17, [(1, (.box (.frz aS)))], []⟩)] (.l (.r (.r (.l (.piece [(.nrm, ⟨[(67, vb)], rg 68 8, [], []⟩)] .none))))))))))))))) := eqn Tryz.f65
theorem eval_run_decls.eq (G : bH) : Eqn (Q [eval_run_expression.spec G, dF.spec]) (eval_run_decls.g.sp 251 fun x => R.eval_run_decls G x.1 x.2.1 x.2.2) (.r (.l (.r (.l (.loop ⟨[(15, vi)], rg 8 5 ++ rg 16 42, [(2, aM)], [0, 1]⟩ [(.ext 0, ⟨[], rg 8 5 ++ rg 15 43, [(2, aM)], [0, 1]⟩), (.ret, ⟨[], rg 8 5 ++ rg 15 43, [(2, aM), (4, (.box (.frz az)))], [0, 1]⟩)] (.r (.r (.l (.l (.r (.r (.r (.l (.piece [(.nrm, ⟨[], [11, 12] ++ rg 27 16 ++ [46], [(2, aM), (11, (.box (.frz aB)))], [5, 6]⟩), (.ret, ⟨[], [11, 12] ++ rg 27 19, [(2, aM), (4, (.box (.frz az)))], [5, 6]⟩)] .none)))))))))))))) := eqn Tryz.f251
theorem gE.eq : Eqn (Q [hJ.spec, gW.spec, gA.spec]) gE.spec (.r (.r (.r (.two (.l (.piece [(.nrm, ⟨[(36, vb)], rg 25 11, [], []⟩)] .none)) (.two (.r (.l (.loop ⟨[(40, vi)], [4, 8, 9, 10] ++ rg 41 23, [], []⟩ [(.ext 0, ⟨[], [4, 8, 9, 10] ++ rg 40 24, [], []⟩), (.ret, ⟨[(4, vb)], [8, 9, 10] ++ rg 40 24, [], []⟩)] (.r (.r (.l (.l (.r (.r (.l (.piece [(.nrm, ⟨[(10, vi)], rg 46 8, [], []⟩)] .none))))))))))) (.l (.l (.r (.r (.l (.piece [(.nrm, ⟨[(90, vb)], rg 91 9, [], []⟩)] .none))))))))))) := eqn Tryz.f40
theorem parse_parser_calls.eq (G : bN) : Eqn (Q [ai.spec, parse_parser_arguments.spec G, parse_parser_head.spec G, parse_parser_member.spec G, bE.spec]) (parse_parser_calls.g.sp 376 fun x => R.parse_parser_calls G x) (.r (.l (.r (.r (.l (.l (.loop ⟨[], [4, 5] ++ rg 8 17, [(0, aI), (3, (.box (.frz (.rose aC))))], []⟩ [(.ext 0, ⟨[], [4, 5] ++ rg 8 17, [(0, aI), (3, (.box (.frz (.rose aC))))], []⟩)] .none))))))) := eqn Tryz.f376
theorem eval_run_block.eq (G : bH) : Eqn (Q [eE.spec, bu.spec, eval_run_list.spec G, bW.spec]) (eval_run_block.g.sp 250 fun x => R.eval_run_block G x.1 x.2.1 x.2.2) (.r (.l (.piece [(.nrm, ⟨[], rg 7 21 ++ rg 30 11, [(2, aM), (3, (.box (.frz aX)))], [0, 1]⟩), (.ret, ⟨[], rg 7 37, [(2, aM), (4, (.box (.frz az)))], [0, 1, 3]⟩)] .none))) := eqn Tryz.f250
theorem fx.eq : Eqn (Q [de.spec, dL.spec]) fx.spec (.r (.r (.r (.r (.l (.loop ⟨[(6, (false, (.own (.frz bd))))], [2, 3, 4] ++ rg 7 4 ++ rg 17 41, [(0, (.box (.frz gI)))], []⟩ [(.ret, ⟨[(2, (false, (.own (.frz bd)))), (3, vi), (4, vi)], rg 6 5 ++ rg 17 41, [], [0]⟩)] .none)))))) := eqn Tryz.f178
theorem cu.eq : Eqn (Q [cR.spec, bk.spec, bV.spec, dC.spec, bF.spec, ec.spec]) cu.spec (.r (.r (.r (.l (.l (.l (.piece [(.nrm, ⟨[(12, vb)], rg 13 7, [], []⟩)] .none))))))) := eqn Tryz.f234
theorem gH.eq : Eqn (Q []) gH.spec (.r (.r (.l (.r (.l (.loop ⟨[(4, vi), (9, vi)], [2, 3, 6] ++ rg 10 12, [], []⟩ [(.ext 0, ⟨[(4, vi)], [2, 3, 6] ++ rg 9 13, [], []⟩), (.ret, ⟨[(2, vi), (3, vb)], [4, 6] ++ rg 9 13, [], []⟩)] .none)))))) := eqn Tryz.f122
theorem di.eq : Eqn (Q []) di.spec (.r (.r (.l (.r (.l (.loop ⟨[(5, vi)], [4] ++ rg 11 15, [], []⟩ [(.ext 0, ⟨[], [4, 5] ++ rg 11 15, [], []⟩), (.ret, ⟨[(4, vb)], [5] ++ rg 11 15, [], []⟩)] .none)))))) := eqn Tryz.f30
theorem parse_parser_simple.eq (G : bN) : Eqn (Q [ai.spec, parse_parser_assign.spec G, bj.spec]) (parse_parser_simple.g.sp 281 fun x => R.parse_parser_simple G x) .none := eqn Tryz.f281
theorem dM.eq : Eqn (Q [cg.spec, bl.spec, dJ.spec, a8.spec, al.spec, aH.spec]) dM.spec .none := eqn Tryz.f368
theorem av.eq : Eqn (Q [gp.spec, gO 70 (.int .u16), bw.spec, gv.spec, bF.spec]) av.spec .none := eqn Tryz.f32
theorem aV.eq : Eqn (Q [au.spec, dX.spec, iN.spec]) aV.spec .none := eqn Tryz.f45
theorem aQ.eq : Eqn (Q [bQ.spec]) aQ.spec .none := eqn Tryz.f131
theorem bK.eq : Eqn (Q [fP.spec]) bK.spec .none := eqn Tryz.f236
theorem iZ.eq : Eqn (Q [fb.spec, gO 109 (.int .u32)]) iZ.spec .none := eqn Tryz.f98
theorem gY.eq : Eqn (Q [iE.spec, gZ.spec]) gY.spec .none := eqn Tryz.f128
theorem aj.eq : Eqn (Q []) aj.spec .none := eqn Tryz.f279
theorem bY.eq : Eqn (Q []) bY.spec .none := eqn Tryz.f215
theorem gD.eq : Eqn (Q []) gD.spec .none := eqn Tryz.f116
theorem hB.eq : Eqn (Q []) hB.spec .none := eqn Tryz.f373
theorem fb.eq : Eqn (Q []) fb.spec .none := eqn Tryz.f37
end Go.Mach
set_option linter.unusedVariables false
set_option maxRecDepth 100000
namespace Go.Mach
open Go.Proofs
theorem cF.eq : Eqn (Q [a8.spec, bW.spec, bJ.spec, bF.spec]) cF.spec (.r (.r (.r (.two (.piece [(.nrm, ⟨[(10, vb)], rg 29 8, [], []⟩)] .none) (.two (.piece [(.nrm, ⟨[], [11, 12] ++ rg 37 10 ++ rg 49 11, [(2, aM), (7, (.box (.seq .i (.seq .i (.seq (.own (.frz cM)) (.seq (.own (.frz bO)) (.seq .s (.seq .i (.seq .i (.seq (.seq .i (.seq (.frz aS) (.seq (.seq .b (.own .w)) (.seq (.own .h) .i)))) (.seq .i (.seq .i (.seq .i (.seq .i (.own .y)))))))))))))))], [0, 1]⟩), (.ret, ⟨[(7, vi)], [11, 12] ++ rg 37 12, [(2, aM), (4, (.box (.seq .i (.seq (.frz aS) (.seq (.seq .b (.own .w)) (.seq (.own .h) .i))))))], [0, 1]⟩)] .none) (.r (.two (.piece [(.nrm, ⟨[], rg 63 13, [(7, (.box j8))], [11, 12, 13, 14, 15]⟩)] (.l (.l (.piece [(.nrm, ⟨[(63, vb)], rg 64 5, [], []⟩)] .none)))) (.r (.l (.l (.piece [(.nrm, ⟨[(86, vb)], rg 82 4, [], []⟩)] .none))))))))))) := eqn Tryz.f195
theorem bu.eq : Eqn (Q [cF.spec, bJ.spec]) bu.spec (.r (.l (.r (.l (.loop ⟨[(25, vi)], [7, 9, 10, 12, 13, 14] ++ rg 26 68, [(2, aM)], [0, 1]⟩ [(.ext 0, ⟨[], [7, 9, 10, 12, 13, 14] ++ rg 25 69, [(2, aM)], [0, 1]⟩), (.ret, ⟨[(7, vi)], [9, 10, 12, 13, 14] ++ rg 25 69, [(2, aM), (4, (.box (.frz aB)))], [0, 1]⟩)] (.r (.r (.l (.l (.r (.r (.r (.l (.two (.piece [(.nrm, ⟨[(39, vb)], [40, 41], [], []⟩)] .none) (.l (.r (.l (.loop ⟨[(45, vi)], [12] ++ rg 46 24, [(7, gS)], [6]⟩ [(.ext 3, ⟨[], [12] ++ rg 45 25, [(7, gS)], [6]⟩)] .none)))))))))))))))))) := eqn Tryz.f145
theorem parse_parser_assign.eq (G : bN) : Eqn (Q [du.spec, ak.spec, aj.spec, dA.spec, parse_parser_assign.spec G, parse_parser_body.spec G, parse_parser_cond.spec G, aK.spec, cT.spec, iJ.spec, eL.spec]) (parse_parser_assign.g.sp 273 fun x => R.parse_parser_assign G x) (.r (.two (.r (.l (.piece [(.nrm, ⟨[(21, vb)], rg 8 13, [], []⟩)] .none))) (.r (.r (.r (.l (.l (.piece [(.nrm, ⟨[(53, vb)], rg 45 8, [], []⟩)] .none)))))))) := eqn Tryz.f273
theorem parse_parser_level.eq (G : bN) : Eqn (Q [fa.spec, ak.spec, parse_parser_level.spec G, aK.spec, parse_parser_unary.spec G]) (parse_parser_level.g.sp 332 fun x => R.parse_parser_level G x.1 x.2) (.r (.r (.r (.l (.l (.loop ⟨[], [6] ++ rg 15 23, [(0, aI), (3, (.box (.frz (.rose aC))))], []⟩ [(.ext 0, ⟨[], [6] ++ rg 15 23, [(0, aI), (3, (.box (.frz (.rose aC))))], []⟩)] .none)))))) := eqn Tryz.f332
theorem eD.eq : Eqn (Q [gP.spec, fL.spec, al.spec, aH.spec, dF.spec, dG.spec]) eD.spec (.r (.r (.two (.l (.two (.piece [(.nrm, ⟨[(27, vb)], rg 28 6, [], []⟩)] .none) (.r (.l (.piece [(.nrm, ⟨[(38, vb)], rg 39 5, [], []⟩)] .none))))) (.l (.r (.l (.piece [(.nrm, ⟨[(68, vb)], rg 64 4, [], []⟩)] .none))))))) := eqn Tryz.f359
theorem dN.eq : Eqn (Q [cz.spec, av.spec, a8.spec, aH.spec]) dN.spec (.r (.r (.l (.piece [(.nrm, ⟨[], [9, 10] ++ rg 12 10 ++ [27, 28], [(5, (.box (.frz aB)))], []⟩), (.ret, ⟨[(7, vi)], [9, 10] ++ rg 12 15, [(2, aM), (4, (.box (.frz aB)))], [0, 1]⟩)] .none)))) := eqn Tryz.f384
theorem cf.eq : Eqn (Q [dn.spec, fN.spec, fR.spec]) cf.spec (.r (.r (.r (.l (.r (.l (.loop ⟨[(14, vi)], [2, 3, 5] ++ rg 15 8, [], []⟩ [(.ext 0, ⟨[], [2, 3, 5] ++ rg 14 9, [], []⟩), (.ret, ⟨[(2, vi), (3, vi)], [5] ++ rg 14 9, [], []⟩)] .none))))))) := eqn Tryz.f43
theorem fm.eq : Eqn (Q [aQ.spec]) fm.spec (.r (.l (.r (.l (.loop ⟨[(7, vi)], [2, 3, 4] ++ rg 8 10, [], []⟩ [(.ext 0, ⟨[], [2, 3, 4] ++ rg 7 11, [], []⟩), (.ret, ⟨[(2, vb)], [3, 4] ++ rg 7 11, [], []⟩)] .none))))) := eqn Tryz.f137
theorem eu.eq : Eqn (Q []) eu.spec (.r (.r (.l (.r (.l (.loop ⟨[(5, (false, (.own .s))), (15, vi)], [7] ++ rg 16 13, [], []⟩ [(.ext 0, ⟨[(5, (false, (.own .s)))], [7] ++ rg 15 14, [], []⟩)] .none)))))) := eqn Tryz.f186
theorem eval_run_binary.eq (G : bH) : Eqn (Q [eval_run_expression.spec G, cp.spec, eb.spec]) (eval_run_binary.g.sp 324 fun x => R.eval_run_binary G x.1 x.2.1 x.2.2) .none := eqn Tryz.f324
theorem eval_run_property.eq (G : bH) : Eqn (Q [dy.spec, eval_run_parts.spec G]) (eval_run_property.g.sp 330 fun x => R.eval_run_property G x.1 x.2.1 x.2.2) .none := eqn Tryz.f330
theorem dZ.eq : Eqn (Q [gZ.spec, cR.spec, ay.spec]) dZ.spec .none := eqn Tryz.f233
theorem b8.eq : Eqn (Q [av.spec, dx.spec, di.spec]) b8.spec .none := eqn Tryz.f18
theorem dJ.eq : Eqn (Q [gO 70 (.int .u16), bY.spec]) dJ.spec .none := eqn Tryz.f391
theorem iJ.eq : Eqn (Q [aQ.spec, eH.spec]) iJ.spec .none := eqn Tryz.f302
theorem cp.eq : Eqn (Q [aH.spec]) cp.spec .none := eqn Tryz.f338
theorem fB.eq : Eqn (Q [eD.spec]) fB.spec .none := eqn Tryz.f343
theorem b9.eq : Eqn (Q []) b9.spec .none := eqn Tryz.f197
theorem fV.eq : Eqn (Q []) fV.spec .none := eqn Tryz.f121
theorem ea.eq : Eqn (Q []) ea.spec .none := eqn Tryz.f35
end Go.Mach
set_option linter.unusedVariables false
set_option maxRecDepth 100000
namespace Go.Mach
open Go.Proofs
theorem fe.eq : Eqn (Q []) fe.spec (.r (.r (.l (.r (.l (.loop ⟨[(3, (false, (.own .i))), (10, vi)], [2, 4, 5, 6] ++ rg 11 59, [], []⟩ [(.ext 0, ⟨[(3, (false, (.own .i)))], [2, 4, 5, 6] ++ rg 10 60, [], []⟩), (.ret, ⟨[(2, vb)], rg 3 4 ++ rg 10 60, [], []⟩)] (.r (.r (.l (.l (.r (.two (.piece [(.nrm, ⟨[(3, (false, (.own .i)))], rg 15 20, [], [2]⟩), (.ret, ⟨[(2, vb)], rg 15 15, [], []⟩)] (.r (.l (.l (.l (.piece [(.nrm, ⟨[(29, vb)], rg 17 12, [], []⟩)] .none)))))) (.r (.l (.loop ⟨[(3, (false, (.own .i))), (6, vi)], [2] ++ rg 39 30, [], [5]⟩ [(.ext 2, ⟨[(3, (false, (.own .i)))], [2, 6] ++ rg 39 30, [], [5]⟩), (.ret, ⟨[(2, vb)], [3, 6] ++ rg 39 30, [], [5]⟩)] (.r (.l (.l (.l (.l (.piece [(.nrm, ⟨[(60, vb)], rg 43 17, [], []⟩)] .none))))))))))))))))))))) := eqn Tryz.f38
theorem ch.eq : Eqn (Q [dV.spec, dw.spec, ed.spec]) ch.spec (.r (.r (.two (.r (.l (.loop ⟨[(1, (false, (.own .s))), (13, vi)], [3, 5] ++ rg 14 19, [], [0]⟩ [(.ext 0, ⟨[(1, (false, (.own .s)))], [3, 5] ++ rg 13 20, [], [0]⟩)] (.r (.r (.l (.l (.r (.r (.l (.loop ⟨[(1, (false, (.own .s))), (20, vi)], [5] ++ rg 21 11, [], [4]⟩ [(.ext 2, ⟨[(1, (false, (.own .s)))], [5] ++ rg 20 12, [], [4]⟩)] .none))))))))))) (.r (.l (.r (.l (.loop ⟨[(1, (false, (.own .s))), (38, vi)], [7] ++ rg 39 11, [], [6]⟩ [(.ext 4, ⟨[(1, (false, (.own .s)))], [7] ++ rg 38 12, [], [6]⟩)] .none)))))))) := eqn Tryz.f372
theorem eval_run_assign.eq (G : bH) : Eqn (Q [eval_run_expression.spec G, fB.spec, eval_run_parts.spec G, aH.spec, eb.spec]) (eval_run_assign.g.sp 326 fun x => R.eval_run_assign G x.1 x.2.1 x.2.2) (.r (.r (.r (.r (.r (.two (.piece [(.nrm, ⟨[], [39, 40], [], []⟩)] .none) (.r (.l (.piece [(.nrm, ⟨[], [13, 14] ++ rg 66 11 ++ [82], [(11, (.box (.frz aB)))], []⟩), (.ret, ⟨[(7, vi)], [13, 14] ++ rg 66 16, [(2, aM), (5, (.box (.frz aB)))], [14, 15]⟩)] .none))))))))) := eqn Tryz.f326
theorem eval_run_operation.eq (G : bH) : Eqn (Q [aw.spec, eval_run_arguments.spec G, eval_run_assign.spec G, eval_run_binary.spec G, eval_run_callee.spec G, eval_run_expression.spec G, eval_run_fresh.spec G, eval_run_logic.spec G, eval_run_property.spec G]) (eval_run_operation.g.sp 313 fun x => R.eval_run_operation G x.1 x.2.1 x.2.2.1 x.2.2.2) (.r (.r (.l (.r (.l (.r (.r (.l (.piece [(.nrm, ⟨[(33, vb)], [34, 35], [], []⟩)] .none))))))))) := eqn Tryz.f313
theorem dG.eq : Eqn (Q [b9.spec, cN.spec, eJ.spec]) dG.spec (.r (.l (.r (.l (.loop ⟨[(1, vi), (16, vi)], rg 7 4 ++ rg 17 37, [], []⟩ [(.ext 0, ⟨[], [1] ++ rg 7 4 ++ rg 16 38, [], []⟩), (.ret, ⟨[(7, vi), (8, vb)], [1, 9, 10] ++ rg 16 38, [(2, (.box (.frz bO)))], []⟩)] .none))))) := eqn Tryz.f334
theorem ah.eq : Eqn (Q [ey.spec]) ah.spec (.r (.l (.r (.l (.loop ⟨[(8, vi)], [4, 5] ++ rg 9 10, [], []⟩ [(.ext 0, ⟨[], [4, 5] ++ rg 8 11, [], []⟩), (.ret, ⟨[(4, vi)], [5] ++ rg 8 11, [], []⟩)] .none))))) := eqn Tryz.f175
theorem eval_run_logic.eq (G : bH) : Eqn (Q [aw.spec, eval_run_expression.spec G]) (eval_run_logic.g.sp 325 fun x => R.eval_run_logic G x.1 x.2.1 x.2.2) (.r (.r (.r (.r (.l (.piece [(.nrm, ⟨[(10, vb)], rg 25 19, [], []⟩)] .none)))))) := eqn Tryz.f325
theorem eG.eq : Eqn (Q [cg.spec, aH.spec]) eG.spec (.r (.r (.l (.piece [(.nrm, ⟨[(10, vi)], rg 18 8, [], []⟩)] (.l (.piece [(.nrm, ⟨[(25, vb)], rg 18 7, [], []⟩)] .none)))))) := eqn Tryz.f416
theorem eV.eq : Eqn ({ P := Tryz.prog, specs := [], ety := l7 Tryz.prog owned, inls := [vX 147 (lM.env Tryz.prog) Tryz.f147 .none] } : Env) eV.spec .none := eqn Tryz.f393
theorem dt.eq : Eqn (Q [cf.spec, ib.spec, aV.spec]) dt.spec (.r (.l (.r (.l (.piece [(.nrm, ⟨[(21, vb)], rg 15 6, [], []⟩)] .none))))) := eqn Tryz.f15
theorem jy.eq : Eqn (Q [fT.spec, fl.spec]) jy.spec (.r (.l (.l (.piece [(.nrm, ⟨[(9, vb)], rg 4 5, [], []⟩)] .none)))) := eqn Tryz.f155
theorem dC.eq : Eqn (Q [bA.spec]) dC.spec .none := eqn Tryz.f268
theorem bz.eq : Eqn (Q [cK.spec]) bz.spec .none := eqn Tryz.f424
theorem cO.eq : Eqn (Q [cz.spec, a8.spec]) cO.spec .none := eqn Tryz.f355
theorem dz.eq : Eqn (Q [cA.spec]) dz.spec .none := eqn Tryz.f392
theorem gz.eq : Eqn (Q [cr.spec]) gz.spec .none := eqn Tryz.f118
theorem bS.eq : Eqn (Q []) bS.spec .none := eqn Tryz.f274
theorem dV.eq : Eqn (Q []) dV.spec .none := eqn Tryz.f398
theorem ai.eq : Eqn (Q []) ai.spec .none := eqn Tryz.f209
theorem gu.eq : Eqn (Q []) gu.spec .none := eqn Tryz.f230
end Go.Mach
set_option linter.unusedVariables false
set_option maxRecDepth 100000
namespace Go.Mach
open Go.Proofs
theorem eval_run_host.eq (G : bH) : Eqn (Q [dE.spec, cz.spec, av.spec, dJ.spec, al.spec, aH.spec, bB.spec]) (eval_run_host.g.sp 389 fun x => R.eval_run_host G x.1 x.2.1 x.2.2) (.r (.r (.two (.piece [(.nrm, ⟨[], rg 9 4 ++ rg 17 7 ++ rg 28 23 ++ rg 55 7 ++ rg 67 9 ++ rg 81 7, [(5, (.box (.frz dq)))], []⟩), (.ret, ⟨[(7, vi)], rg 9 6 ++ [17] ++ rg 19 9 ++ rg 31 24 ++ [60, 61] ++ rg 67 14 ++ [83, 84] ++ rg 86 14, [(2, aM), (4, (.box (.frz aB)))], [0, 1]⟩)] (.r (.l (.r (.r (.r (.l (.r (.l (.l (.piece [(.nrm, ⟨[(50, vb)], rg 43 7, [], []⟩)] .none))))))))))) (.r (.l (.l (.r (.r (.r (.r (.l (.piece [(.nrm, ⟨[(123, vb)], rg 124 8, [], []⟩)] .none)))))))))))) := eqn Tryz.f389
theorem fa.eq : Eqn (Q [du.spec]) fa.spec (.r (.two (.l (.piece [(.nrm, ⟨[(10, vb)], rg 3 7, [], []⟩)] .none)) (.l (.r (.l (.r (.r (.r (.r (.r (.r (.two (.piece [(.nrm, ⟨[(19, vb)], rg 20 4, [], []⟩)] .none) (.r (.two (.piece [(.nrm, ⟨[(24, vb)], rg 25 5, [], []⟩)] .none) (.r (.two (.piece [(.nrm, ⟨[(30, vb)], [31, 32, 33], [], []⟩)] .none) (.r (.two (.piece [(.nrm, ⟨[(34, vb)], [35, 36], [], []⟩)] .none) (.r (.l (.piece [(.nrm, ⟨[(37, vb)], [38, 39, 40], [], []⟩)] .none))))))))))))))))))))) := eqn Tryz.f354
theorem dL.eq : Eqn (Q [fP.spec, ef.spec, bK.spec, cu.spec, cy.spec, dY.spec, dZ.spec]) dL.spec (.r (.r (.l (.l (.r (.r (.r (.r (.two (.piece [(.nrm, ⟨[(29, vb)], rg 30 6, [], []⟩)] .none) (.r (.l (.piece [(.nrm, ⟨[(40, vb)], rg 41 6, [], []⟩)] .none)))))))))))) := eqn Tryz.f208
theorem iE.eq : Eqn (Q [fP.spec, ef.spec]) iE.spec (.r (.l (.r (.l (.loop ⟨[(7, vi)], [2, 3, 4] ++ rg 8 19, [], []⟩ [(.ext 0, ⟨[], [2, 3, 4] ++ rg 7 20, [], []⟩), (.ret, ⟨[(2, vb)], [3, 4] ++ rg 7 20, [], []⟩)] (.r (.r (.l (.l (.r (.r (.l (.piece [(.nrm, ⟨[(25, vb)], rg 14 11, [], []⟩)] .none))))))))))))) := eqn Tryz.f129
theorem af.eq : Eqn (Q [ez.spec]) af.spec (.r (.l (.r (.l (.loop ⟨[(8, vi)], [4, 5] ++ rg 9 10, [], []⟩ [(.ext 0, ⟨[], [4, 5] ++ rg 8 11, [], []⟩), (.ret, ⟨[(4, vi)], [5] ++ rg 8 11, [], []⟩)] .none))))) := eqn Tryz.f213
theorem parse_parser_cond.eq (G : bN) : Eqn (Q [ai.spec, parse_parser_assign.spec G, parse_parser_either.spec G, aU.spec, aJ.spec]) (parse_parser_cond.g.sp 301 fun x => R.parse_parser_cond G x) .none := eqn Tryz.f301
theorem dW.eq : Eqn (Q [cg.spec, fG.spec, bl.spec, dz.spec, a8.spec, al.spec, eW.spec, aH.spec]) dW.spec .none := eqn Tryz.f371
theorem gZ.eq : Eqn (Q []) gZ.spec (.r (.l (.r (.l (.two (.piece [(.nrm, ⟨[(4, vb)], rg 5 22, [], []⟩)] .none) (.r (.l (.piece [(.nrm, ⟨[(27, vb)], rg 28 27, [], []⟩)] .none)))))))) := eqn Tryz.f181
theorem eK.eq : Eqn (Q [fb.spec, ea.spec, fi.spec]) eK.spec (.r (.r (.l (.r (.l (.l (.piece [(.nrm, ⟨[(7, vb)], [8, 9], [], []⟩)] .none))))))) := eqn Tryz.f12
theorem fL.eq : Eqn (Q [eg.spec, dH.spec, ed.spec, aQ.spec]) fL.spec .none := eqn Tryz.f336
theorem hJ.eq : Eqn (Q [dB.spec, eP.spec, eL.spec]) hJ.spec .none := eqn Tryz.f75
theorem fE.eq : Eqn (Q [dV.spec, bQ.spec]) fE.spec .none := eqn Tryz.f395
theorem fy.eq : Eqn (Q [fE.spec, ct.spec]) fy.spec .none := eqn Tryz.f370
theorem cC.eq : Eqn (Q [bY.spec]) cC.spec .none := eqn Tryz.f220
theorem eT.eq : Eqn (Q [eO.spec]) eT.spec .none := eqn Tryz.f83
theorem aK.eq : Eqn (Q []) aK.spec .none := eqn Tryz.f210
theorem iw.eq : Eqn (Q [fb.spec]) iw.spec .none := eqn Tryz.f99
theorem ed.eq : Eqn (Q []) ed.spec .none := eqn Tryz.f356
theorem du.eq : Eqn (Q []) du.spec .none := eqn Tryz.f238
end Go.Mach
