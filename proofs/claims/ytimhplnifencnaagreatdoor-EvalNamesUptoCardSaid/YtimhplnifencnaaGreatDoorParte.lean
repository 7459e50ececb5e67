/-
  Proved here: the law renlaw12.EvalNames returns true for every input of the stated bulk and leaves its arguments as they were; no further condition.
  By an AI agent; no person has read it.
-/
import Derived.Test.YtimhplnifencnaaGreatDoorPartd
import Derived.KernelRfl
import Derived.Test.YtimhplnifencnaaGreatDoorProg
set_option linter.all false
set_option linter.deprecated false
set_option linter.unusedVariables false
set_option maxRecDepth 100000
namespace Go.Mach
open Go.Proofs
theorem eG.eq : Eqn (Q [aS.spec, av.spec, gW.spec, fh.spec, ez.spec, fa.spec]) eG.spec (.r (.two (.l (.loop ⟨[(0, (false, (.bor (.own .h))))], rg 11 11, [], []⟩ [(.ext 0, ⟨[(0, (false, (.bor (.own .h))))], rg 11 11, [], []⟩)] (.l (.l (.piece [(.nrm, ⟨[(19, vb)], rg 11 8, [], []⟩)] .none))))) (.two (.l (.loop ⟨[(0, (false, (.bor (.own .h))))], rg 22 17, [], []⟩ [(.ext 2, ⟨[(0, (false, (.bor (.own .h))))], rg 22 17, [], []⟩)] (.l (.l (.piece [(.nrm, ⟨[(33, vb)], rg 22 11, [], []⟩)] .none))))) (.r (.r (.r (.two (.piece [(.nrm, ⟨[(5, (false, (.bor (.own .h))))], rg 49 9, [], []⟩)] (.l (.piece [(.nrm, ⟨[(55, vb)], rg 49 6, [], []⟩)] .none))) (.r (.l (.piece [(.nrm, ⟨[(8, vb)], [9, 10] ++ rg 62 21 ++ [84, 85], [(7, (.box (.frz aL)))], []⟩), (.ret, ⟨[(3, vb)], [9, 10] ++ rg 62 4 ++ rg 67 17, [(1, (.box (.frz aL)))], []⟩)] (.l (.r (.r (.l (.piece [(.nrm, ⟨[(67, vb)], rg 68 8, [], []⟩)] .none))))))))))))))) := eqn Tryz.f65
theorem eval_run_decls.eq (G : ax) : Eqn (Q [eval_run_expression.spec G, cf.spec]) (eval_run_decls.g.sp 251 fun x => R.eval_run_decls G x.1 x.2.1 x.2.2) (.r (.l (.r (.l (.loop ⟨[(15, vi)], rg 8 5 ++ rg 16 42, [(2, aJ)], [0, 1]⟩ [(.ext 0, ⟨[], rg 8 5 ++ rg 15 43, [(2, aJ)], [0, 1]⟩), (.ret, ⟨[], rg 8 5 ++ rg 15 43, [(2, aJ), (4, (.box (.frz ai)))], [0, 1]⟩)] (.r (.r (.l (.l (.r (.r (.r (.l (.piece [(.nrm, ⟨[], [11, 12] ++ rg 27 16 ++ [46], [(2, aJ), (11, (.box (.frz aA)))], [5, 6]⟩), (.ret, ⟨[], [11, 12] ++ rg 27 19, [(2, aJ), (4, (.box (.frz ai)))], [5, 6]⟩)] .none)))))))))))))) := eqn Tryz.f251
theorem fX.eq : Eqn (Q [gX.spec, fy.spec, fb.spec]) fX.spec (.r (.r (.r (.two (.l (.piece [(.nrm, ⟨[(36, vb)], rg 25 11, [], []⟩)] .none)) (.two (.r (.l (.loop ⟨[(40, vi)], [4, 8, 9, 10] ++ rg 41 23, [], []⟩ [(.ext 0, ⟨[], [4, 8, 9, 10] ++ rg 40 24, [], []⟩), (.ret, ⟨[(4, vb)], [8, 9, 10] ++ rg 40 24, [], []⟩)] (.r (.r (.l (.l (.r (.r (.l (.piece [(.nrm, ⟨[(10, vi)], rg 46 8, [], []⟩)] .none))))))))))) (.l (.l (.r (.r (.l (.piece [(.nrm, ⟨[(90, vb)], rg 91 9, [], []⟩)] .none))))))))))) := eqn Tryz.f40
theorem parse_parser_calls.eq (G : bC) : Eqn (Q [aU.spec, parse_parser_arguments.spec G, parse_parser_head.spec G, parse_parser_member.spec G, au.spec]) (parse_parser_calls.g.sp 376 fun x => R.parse_parser_calls G x) (.r (.l (.r (.r (.l (.l (.loop ⟨[], [4, 5] ++ rg 8 17, [(0, aE), (3, (.box (.frz (.rose aB))))], []⟩ [(.ext 0, ⟨[], [4, 5] ++ rg 8 17, [(0, aE), (3, (.box (.frz (.rose aB))))], []⟩)] .none))))))) := eqn Tryz.f376
theorem eval_run_block.eq (G : ax) : Eqn (Q [dY.spec, ba.spec, eval_run_list.spec G, bL.spec]) (eval_run_block.g.sp 250 fun x => R.eval_run_block G x.1 x.2.1 x.2.2) (.r (.l (.piece [(.nrm, ⟨[], rg 7 21 ++ rg 30 11, [(2, aJ), (3, (.box (.frz aP)))], [0, 1]⟩), (.ret, ⟨[], rg 7 37, [(2, aJ), (4, (.box (.frz ai)))], [0, 1, 3]⟩)] .none))) := eqn Tryz.f250
theorem ff.eq : Eqn (Q [dE.spec, cp.spec]) ff.spec (.r (.r (.r (.r (.l (.loop ⟨[(6, (false, (.own (.frz bQ))))], [2, 3, 4] ++ rg 7 4 ++ rg 17 41, [(0, (.box (.frz fj)))], []⟩ [(.ret, ⟨[(2, (false, (.own (.frz bQ)))), (3, vi), (4, vi)], rg 6 5 ++ rg 17 41, [], [0]⟩)] .none)))))) := eqn Tryz.f178
theorem cT.eq : Eqn (Q [cC.spec, bV.spec, bK.spec, ca.spec, av.spec, eG.spec]) cT.spec (.r (.r (.r (.l (.l (.l (.piece [(.nrm, ⟨[(12, vb)], rg 13 7, [], []⟩)] .none))))))) := eqn Tryz.f234
theorem fa.eq : Eqn (Q []) fa.spec (.r (.r (.l (.r (.l (.loop ⟨[(4, vi), (9, vi)], [2, 3, 6] ++ rg 10 12, [], []⟩ [(.ext 0, ⟨[(4, vi)], [2, 3, 6] ++ rg 9 13, [], []⟩), (.ret, ⟨[(2, vi), (3, vb)], [4, 6] ++ rg 9 13, [], []⟩)] .none)))))) := eqn Tryz.f122
theorem cS.eq : Eqn (Q []) cS.spec (.r (.r (.l (.r (.l (.loop ⟨[(5, vi)], [4] ++ rg 11 15, [], []⟩ [(.ext 0, ⟨[], [4, 5] ++ rg 11 15, [], []⟩), (.ret, ⟨[(4, vb)], [5] ++ rg 11 15, [], []⟩)] .none)))))) := eqn Tryz.f30
theorem parse_parser_simple.eq (G : bC) : Eqn (Q [aU.spec, parse_parser_assign.spec G, bU.spec]) (parse_parser_simple.g.sp 281 fun x => R.parse_parser_simple G x) .none := eqn Tryz.f281
theorem cn.eq : Eqn (Q [cN.spec, bX.spec, ch.spec, ak.spec, aZ.spec, aC.spec]) cn.spec .none := eqn Tryz.f368
theorem bc.eq : Eqn (Q [gR.spec, fl 70 (.int .u16), bk.spec, gO.spec, av.spec]) bc.spec .none := eqn Tryz.f32
theorem bW.eq : Eqn (Q [bN.spec, dG.spec, gx.spec]) bW.spec .none := eqn Tryz.f45
theorem aK.eq : Eqn (Q [bF.spec]) aK.spec .none := eqn Tryz.f131
theorem a8.eq : Eqn (Q [er.spec]) a8.spec .none := eqn Tryz.f236
theorem iE.eq : Eqn (Q [fI.spec, fl 109 (.int .u32)]) iE.spec .none := eqn Tryz.f98
theorem gD.eq : Eqn (Q [gi.spec, gB.spec]) gD.spec .none := eqn Tryz.f128
theorem aX.eq : Eqn (Q []) aX.spec .none := eqn Tryz.f279
theorem bO.eq : Eqn (Q []) bO.spec .none := eqn Tryz.f215
theorem fh.eq : Eqn (Q []) fh.spec .none := eqn Tryz.f116
theorem ga.eq : Eqn (Q []) ga.spec .none := eqn Tryz.f373
theorem fI.eq : Eqn (Q []) fI.spec .none := eqn Tryz.f37
end Go.Mach
set_option linter.unusedVariables false
set_option maxRecDepth 100000
namespace Go.Mach
open Go.Proofs
theorem bu.eq : Eqn (Q [ak.spec, bL.spec, az.spec, av.spec]) bu.spec (.r (.r (.r (.two (.piece [(.nrm, ⟨[(10, vb)], rg 29 8, [], []⟩)] .none) (.two (.piece [(.nrm, ⟨[], [11, 12] ++ rg 37 10 ++ rg 49 11, [(2, aJ), (7, (.box (.seq .i (.seq .i (.seq (.own (.frz cB)) (.seq (.own (.frz bE)) (.seq .s (.seq .i (.seq .i (.seq (.seq .i (.seq (.frz aL) (.seq (.seq .b (.own .w)) (.seq (.own .h) .i)))) (.seq .i (.seq .i (.seq .i (.seq .i (.own .y)))))))))))))))], [0, 1]⟩), (.ret, ⟨[(7, vi)], [11, 12] ++ rg 37 12, [(2, aJ), (4, (.box (.seq .i (.seq (.frz aL) (.seq (.seq .b (.own .w)) (.seq (.own .h) .i))))))], [0, 1]⟩)] .none) (.r (.two (.piece [(.nrm, ⟨[], rg 63 13, [(7, (.box jm))], [11, 12, 13, 14, 15]⟩)] (.l (.l (.piece [(.nrm, ⟨[(63, vb)], rg 64 5, [], []⟩)] .none)))) (.r (.l (.l (.piece [(.nrm, ⟨[(86, vb)], rg 82 4, [], []⟩)] .none))))))))))) := eqn Tryz.f195
theorem ba.eq : Eqn (Q [bu.spec, az.spec]) ba.spec (.r (.l (.r (.l (.loop ⟨[(25, vi)], [7, 9, 10, 12, 13, 14] ++ rg 26 68, [(2, aJ)], [0, 1]⟩ [(.ext 0, ⟨[], [7, 9, 10, 12, 13, 14] ++ rg 25 69, [(2, aJ)], [0, 1]⟩), (.ret, ⟨[(7, vi)], [9, 10, 12, 13, 14] ++ rg 25 69, [(2, aJ), (4, (.box (.frz aA)))], [0, 1]⟩)] (.r (.r (.l (.l (.r (.r (.r (.l (.two (.piece [(.nrm, ⟨[(39, vb)], [40, 41], [], []⟩)] .none) (.l (.r (.l (.loop ⟨[(45, vi)], [12] ++ rg 46 24, [(7, gA)], [6]⟩ [(.ext 3, ⟨[], [12] ++ rg 45 25, [(7, gA)], [6]⟩)] .none)))))))))))))))))) := eqn Tryz.f145
theorem parse_parser_assign.eq (G : bC) : Eqn (Q [dQ.spec, aY.spec, aX.spec, cb.spec, parse_parser_assign.spec G, parse_parser_body.spec G, parse_parser_cond.spec G, aH.spec, cG.spec, gn.spec, dn.spec]) (parse_parser_assign.g.sp 273 fun x => R.parse_parser_assign G x) (.r (.two (.r (.l (.piece [(.nrm, ⟨[(21, vb)], rg 8 13, [], []⟩)] .none))) (.r (.r (.r (.l (.l (.piece [(.nrm, ⟨[(53, vb)], rg 45 8, [], []⟩)] .none)))))))) := eqn Tryz.f273
theorem parse_parser_level.eq (G : bC) : Eqn (Q [fG.spec, aY.spec, parse_parser_level.spec G, aH.spec, parse_parser_unary.spec G]) (parse_parser_level.g.sp 332 fun x => R.parse_parser_level G x.1 x.2) (.r (.r (.r (.l (.l (.loop ⟨[], [6] ++ rg 15 23, [(0, aE), (3, (.box (.frz (.rose aB))))], []⟩ [(.ext 0, ⟨[], [6] ++ rg 15 23, [(0, aE), (3, (.box (.frz (.rose aB))))], []⟩)] .none)))))) := eqn Tryz.f332
theorem da.eq : Eqn (Q [fm.spec, ej.spec, aZ.spec, aC.spec, cf.spec, cd.spec]) da.spec (.r (.r (.two (.l (.two (.piece [(.nrm, ⟨[(27, vb)], rg 28 6, [], []⟩)] .none) (.r (.l (.piece [(.nrm, ⟨[(38, vb)], rg 39 5, [], []⟩)] .none))))) (.l (.r (.l (.piece [(.nrm, ⟨[(68, vb)], rg 64 4, [], []⟩)] .none))))))) := eqn Tryz.f359
theorem cq.eq : Eqn (Q [cU.spec, bc.spec, ak.spec, aC.spec]) cq.spec (.r (.r (.l (.piece [(.nrm, ⟨[], [9, 10] ++ rg 12 10 ++ [27, 28], [(5, (.box (.frz aA)))], []⟩), (.ret, ⟨[(7, vi)], [9, 10] ++ rg 12 15, [(2, aJ), (4, (.box (.frz aA)))], [0, 1]⟩)] .none)))) := eqn Tryz.f384
theorem cA.eq : Eqn (Q [dP.spec, ep.spec, dd.spec]) cA.spec (.r (.r (.r (.l (.r (.l (.loop ⟨[(14, vi)], [2, 3, 5] ++ rg 15 8, [], []⟩ [(.ext 0, ⟨[], [2, 3, 5] ++ rg 14 9, [], []⟩), (.ret, ⟨[(2, vi), (3, vi)], [5] ++ rg 14 9, [], []⟩)] .none))))))) := eqn Tryz.f43
theorem fR.eq : Eqn (Q [aK.spec]) fR.spec (.r (.l (.r (.l (.loop ⟨[(7, vi)], [2, 3, 4] ++ rg 8 10, [], []⟩ [(.ext 0, ⟨[], [2, 3, 4] ++ rg 7 11, [], []⟩), (.ret, ⟨[(2, vb)], [3, 4] ++ rg 7 11, [], []⟩)] .none))))) := eqn Tryz.f137
theorem eP.eq : Eqn (Q []) eP.spec (.r (.r (.l (.r (.l (.loop ⟨[(5, (false, (.own .s))), (15, vi)], [7] ++ rg 16 13, [], []⟩ [(.ext 0, ⟨[(5, (false, (.own .s)))], [7] ++ rg 15 14, [], []⟩)] .none)))))) := eqn Tryz.f186
theorem eval_run_binary.eq (G : ax) : Eqn (Q [eval_run_expression.spec G, cO.spec, eF.spec]) (eval_run_binary.g.sp 324 fun x => R.eval_run_binary G x.1 x.2.1 x.2.2) .none := eqn Tryz.f324
theorem eval_run_property.eq (G : ax) : Eqn (Q [dU.spec, eval_run_parts.spec G]) (eval_run_property.g.sp 330 fun x => R.eval_run_property G x.1 x.2.1 x.2.2) .none := eqn Tryz.f330
theorem dB.eq : Eqn (Q [gB.spec, cC.spec, ah.spec]) dB.spec .none := eqn Tryz.f233
theorem dL.eq : Eqn (Q [bc.spec, cR.spec, cS.spec]) dL.spec .none := eqn Tryz.f18
theorem ch.eq : Eqn (Q [fl 70 (.int .u16), bO.spec]) ch.spec .none := eqn Tryz.f391
theorem gn.eq : Eqn (Q [aK.spec, db.spec]) gn.spec .none := eqn Tryz.f302
theorem cO.eq : Eqn (Q [aC.spec]) cO.spec .none := eqn Tryz.f338
theorem eY.eq : Eqn (Q [da.spec]) eY.spec .none := eqn Tryz.f343
theorem bj.eq : Eqn (Q []) bj.spec .none := eqn Tryz.f197
theorem fB.eq : Eqn (Q []) fB.spec .none := eqn Tryz.f121
theorem eX.eq : Eqn (Q []) eX.spec .none := eqn Tryz.f35
end Go.Mach
set_option linter.unusedVariables false
set_option maxRecDepth 100000
namespace Go.Mach
open Go.Proofs
theorem fK.eq : Eqn (Q []) fK.spec (.r (.r (.l (.r (.l (.loop ⟨[(3, (false, (.own .i))), (10, vi)], [2, 4, 5, 6] ++ rg 11 59, [], []⟩ [(.ext 0, ⟨[(3, (false, (.own .i)))], [2, 4, 5, 6] ++ rg 10 60, [], []⟩), (.ret, ⟨[(2, vb)], rg 3 4 ++ rg 10 60, [], []⟩)] (.r (.r (.l (.l (.r (.two (.piece [(.nrm, ⟨[(3, (false, (.own .i)))], rg 15 20, [], [2]⟩), (.ret, ⟨[(2, vb)], rg 15 15, [], []⟩)] (.r (.l (.l (.l (.piece [(.nrm, ⟨[(29, vb)], rg 17 12, [], []⟩)] .none)))))) (.r (.l (.loop ⟨[(3, (false, (.own .i))), (6, vi)], [2] ++ rg 39 30, [], [5]⟩ [(.ext 2, ⟨[(3, (false, (.own .i)))], [2, 6] ++ rg 39 30, [], [5]⟩), (.ret, ⟨[(2, vb)], [3, 6] ++ rg 39 30, [], [5]⟩)] (.r (.l (.l (.l (.l (.piece [(.nrm, ⟨[(60, vb)], rg 43 17, [], []⟩)] .none))))))))))))))))))))) := eqn Tryz.f38
theorem cP.eq : Eqn (Q [cw.spec, dV.spec, eJ.spec]) cP.spec (.r (.r (.two (.r (.l (.loop ⟨[(1, (false, (.own .s))), (13, vi)], [3, 5] ++ rg 14 19, [], [0]⟩ [(.ext 0, ⟨[(1, (false, (.own .s)))], [3, 5] ++ rg 13 20, [], [0]⟩)] (.r (.r (.l (.l (.r (.r (.l (.loop ⟨[(1, (false, (.own .s))), (20, vi)], [5] ++ rg 21 11, [], [4]⟩ [(.ext 2, ⟨[(1, (false, (.own .s)))], [5] ++ rg 20 12, [], [4]⟩)] .none))))))))))) (.r (.l (.r (.l (.loop ⟨[(1, (false, (.own .s))), (38, vi)], [7] ++ rg 39 11, [], [6]⟩ [(.ext 4, ⟨[(1, (false, (.own .s)))], [7] ++ rg 38 12, [], [6]⟩)] .none)))))))) := eqn Tryz.f372
theorem eval_run_assign.eq (G : ax) : Eqn (Q [eval_run_expression.spec G, eY.spec, eval_run_parts.spec G, aC.spec, eF.spec]) (eval_run_assign.g.sp 326 fun x => R.eval_run_assign G x.1 x.2.1 x.2.2) (.r (.r (.r (.r (.r (.two (.piece [(.nrm, ⟨[], [39, 40], [], []⟩)] .none) (.r (.l (.piece [(.nrm, ⟨[], [13, 14] ++ rg 66 11 ++ [82], [(11, (.box (.frz aA)))], []⟩), (.ret, ⟨[(7, vi)], [13, 14] ++ rg 66 16, [(2, aJ), (5, (.box (.frz aA)))], [14, 15]⟩)] .none))))))))) := eqn Tryz.f326
theorem eval_run_operation.eq (G : ax) : Eqn (Q [fH.spec, eval_run_arguments.spec G, eval_run_assign.spec G, eval_run_binary.spec G, eval_run_callee.spec G, eval_run_expression.spec G, eval_run_fresh.spec G, eval_run_logic.spec G, eval_run_property.spec G]) (eval_run_operation.g.sp 313 fun x => R.eval_run_operation G x.1 x.2.1 x.2.2.1 x.2.2.2) (.r (.r (.l (.r (.l (.r (.r (.l (.piece [(.nrm, ⟨[(33, vb)], [34, 35], [], []⟩)] .none))))))))) := eqn Tryz.f313
theorem cd.eq : Eqn (Q [bj.spec, cD.spec, dp.spec]) cd.spec (.r (.l (.r (.l (.loop ⟨[(1, vi), (16, vi)], rg 7 4 ++ rg 17 37, [], []⟩ [(.ext 0, ⟨[], [1] ++ rg 7 4 ++ rg 16 38, [], []⟩), (.ret, ⟨[(7, vi), (8, vb)], [1, 9, 10] ++ rg 16 38, [(2, (.box (.frz bE)))], []⟩)] .none))))) := eqn Tryz.f334
theorem aV.eq : Eqn (Q [eV.spec]) aV.spec (.r (.l (.r (.l (.loop ⟨[(8, vi)], [4, 5] ++ rg 9 10, [], []⟩ [(.ext 0, ⟨[], [4, 5] ++ rg 8 11, [], []⟩), (.ret, ⟨[(4, vi)], [5] ++ rg 8 11, [], []⟩)] .none))))) := eqn Tryz.f175
theorem eval_run_logic.eq (G : ax) : Eqn (Q [fH.spec, eval_run_expression.spec G]) (eval_run_logic.g.sp 325 fun x => R.eval_run_logic G x.1 x.2.1 x.2.2) (.r (.r (.r (.r (.l (.piece [(.nrm, ⟨[(10, vb)], rg 25 19, [], []⟩)] .none)))))) := eqn Tryz.f325
theorem dZ.eq : Eqn (Q [cN.spec, aC.spec]) dZ.spec (.r (.r (.l (.piece [(.nrm, ⟨[(10, vi)], rg 18 8, [], []⟩)] (.l (.piece [(.nrm, ⟨[(25, vb)], rg 18 7, [], []⟩)] .none)))))) := eqn Tryz.f416
theorem dz.eq : Eqn ({ P := Tryz.prog, specs := [], ety := ln Tryz.prog owned, inls := [va 147 (lG.env Tryz.prog) Tryz.f147 .none] } : Env) dz.spec .none := eqn Tryz.f393
theorem dq.eq : Eqn (Q [cA.spec, iH.spec, bW.spec]) dq.spec (.r (.l (.r (.l (.piece [(.nrm, ⟨[(21, vb)], rg 15 6, [], []⟩)] .none))))) := eqn Tryz.f15
theorem ji.eq : Eqn (Q [fA.spec, fO.spec]) ji.spec (.r (.l (.l (.piece [(.nrm, ⟨[(9, vb)], rg 4 5, [], []⟩)] .none)))) := eqn Tryz.f155
theorem ca.eq : Eqn (Q [aj.spec]) ca.spec .none := eqn Tryz.f268
theorem bh.eq : Eqn (Q [b8.spec]) bh.spec .none := eqn Tryz.f424
theorem cE.eq : Eqn (Q [cU.spec, ak.spec]) cE.spec .none := eqn Tryz.f355
theorem dW.eq : Eqn (Q [bl.spec]) dW.spec .none := eqn Tryz.f392
theorem gW.eq : Eqn (Q [cQ.spec]) gW.spec .none := eqn Tryz.f118
theorem bH.eq : Eqn (Q []) bH.spec .none := eqn Tryz.f274
theorem cw.eq : Eqn (Q []) cw.spec .none := eqn Tryz.f398
theorem aU.eq : Eqn (Q []) aU.spec .none := eqn Tryz.f209
theorem gT.eq : Eqn (Q []) gT.spec .none := eqn Tryz.f230
end Go.Mach
set_option linter.unusedVariables false
set_option maxRecDepth 100000
namespace Go.Mach
open Go.Proofs
theorem eval_run_host.eq (G : ax) : Eqn (Q [cc.spec, cU.spec, bc.spec, ch.spec, aZ.spec, aC.spec, al.spec]) (eval_run_host.g.sp 389 fun x => R.eval_run_host G x.1 x.2.1 x.2.2) (.r (.r (.two (.piece [(.nrm, ⟨[], rg 9 4 ++ rg 17 7 ++ rg 28 23 ++ rg 55 7 ++ rg 67 9 ++ rg 81 7, [(5, (.box (.frz cy)))], []⟩), (.ret, ⟨[(7, vi)], rg 9 6 ++ [17] ++ rg 19 9 ++ rg 31 24 ++ [60, 61] ++ rg 67 14 ++ [83, 84] ++ rg 86 14, [(2, aJ), (4, (.box (.frz aA)))], [0, 1]⟩)] (.r (.l (.r (.r (.r (.l (.r (.l (.l (.piece [(.nrm, ⟨[(50, vb)], rg 43 7, [], []⟩)] .none))))))))))) (.r (.l (.l (.r (.r (.r (.r (.l (.piece [(.nrm, ⟨[(123, vb)], rg 124 8, [], []⟩)] .none)))))))))))) := eqn Tryz.f389
theorem bg.eq : Eqn (Q [dq.spec, ew.spec, dL.spec, bx.spec, dM.spec, bd.spec, cR.spec, cS.spec, dd.spec]) bg.spec (.r (.r (.r (.two (.l (.piece [(.nrm, ⟨[(33, vb)], rg 27 6, [], []⟩)] .none)) (.r (.two (.piece [(.nrm, ⟨[(7, vi)], [35], [], []⟩)] .none) (.r (.r (.r (.r (.r (.r (.r (.two (.l (.piece [(.nrm, ⟨[(128, vb)], rg 116 12, [], []⟩)] .none)) (.r (.r (.r (.two (.piece [(.nrm, ⟨[(18, vb)], rg 147 9, [], []⟩)] .none) (.r (.l (.piece [(.nrm, ⟨[(19, vb)], rg 159 10, [], []⟩)] .none))))))))))))))))))))) := eqn Tryz.f7
theorem fG.eq : Eqn (Q [dQ.spec]) fG.spec (.r (.two (.l (.piece [(.nrm, ⟨[(10, vb)], rg 3 7, [], []⟩)] .none)) (.l (.r (.l (.r (.r (.r (.r (.r (.r (.two (.piece [(.nrm, ⟨[(19, vb)], rg 20 4, [], []⟩)] .none) (.r (.two (.piece [(.nrm, ⟨[(24, vb)], rg 25 5, [], []⟩)] .none) (.r (.two (.piece [(.nrm, ⟨[(30, vb)], [31, 32, 33], [], []⟩)] .none) (.r (.two (.piece [(.nrm, ⟨[(34, vb)], [35, 36], [], []⟩)] .none) (.r (.l (.piece [(.nrm, ⟨[(37, vb)], [38, 39, 40], [], []⟩)] .none))))))))))))))))))))) := eqn Tryz.f354
theorem cp.eq : Eqn (Q [er.spec, eH.spec, a8.spec, cT.spec, cX.spec, dA.spec, dB.spec]) cp.spec (.r (.r (.l (.l (.r (.r (.r (.r (.two (.piece [(.nrm, ⟨[(29, vb)], rg 30 6, [], []⟩)] .none) (.r (.l (.piece [(.nrm, ⟨[(40, vb)], rg 41 6, [], []⟩)] .none)))))))))))) := eqn Tryz.f208
theorem gi.eq : Eqn (Q [er.spec, eH.spec]) gi.spec (.r (.l (.r (.l (.loop ⟨[(7, vi)], [2, 3, 4] ++ rg 8 19, [], []⟩ [(.ext 0, ⟨[], [2, 3, 4] ++ rg 7 20, [], []⟩), (.ret, ⟨[(2, vb)], [3, 4] ++ rg 7 20, [], []⟩)] (.r (.r (.l (.l (.r (.r (.l (.piece [(.nrm, ⟨[(25, vb)], rg 14 11, [], []⟩)] .none))))))))))))) := eqn Tryz.f129
theorem aW.eq : Eqn (Q [eU.spec]) aW.spec (.r (.l (.r (.l (.loop ⟨[(8, vi)], [4, 5] ++ rg 9 10, [], []⟩ [(.ext 0, ⟨[], [4, 5] ++ rg 8 11, [], []⟩), (.ret, ⟨[(4, vi)], [5] ++ rg 8 11, [], []⟩)] .none))))) := eqn Tryz.f213
theorem parse_parser_cond.eq (G : bC) : Eqn (Q [aU.spec, parse_parser_assign.spec G, parse_parser_either.spec G, aM.spec, aF.spec]) (parse_parser_cond.g.sp 301 fun x => R.parse_parser_cond G x) .none := eqn Tryz.f301
theorem dD.eq : Eqn (Q [cN.spec, eZ.spec, bX.spec, dW.spec, ak.spec, aZ.spec, eC.spec, aC.spec]) dD.spec .none := eqn Tryz.f371
theorem gB.eq : Eqn (Q []) gB.spec (.r (.l (.r (.l (.two (.piece [(.nrm, ⟨[(4, vb)], rg 5 22, [], []⟩)] .none) (.r (.l (.piece [(.nrm, ⟨[(27, vb)], rg 28 27, [], []⟩)] .none)))))))) := eqn Tryz.f181
theorem ew.eq : Eqn (Q [fI.spec, eX.spec, fi.spec]) ew.spec (.r (.r (.l (.r (.l (.l (.piece [(.nrm, ⟨[(7, vb)], [8, 9], [], []⟩)] .none))))))) := eqn Tryz.f12
theorem ej.eq : Eqn (Q [eK.spec, cg.spec, eJ.spec, aK.spec]) ej.spec .none := eqn Tryz.f336
theorem gX.eq : Eqn (Q [cZ.spec, dx.spec, dn.spec]) gX.spec .none := eqn Tryz.f75
theorem eW.eq : Eqn (Q [cw.spec, bF.spec]) eW.spec .none := eqn Tryz.f395
theorem fW.eq : Eqn (Q [eW.spec, cW.spec]) fW.spec .none := eqn Tryz.f370
theorem bo.eq : Eqn (Q [bO.spec]) bo.spec .none := eqn Tryz.f220
theorem eD.eq : Eqn (Q [du.spec]) eD.spec .none := eqn Tryz.f83
theorem aH.eq : Eqn (Q []) aH.spec .none := eqn Tryz.f210
theorem iQ.eq : Eqn (Q [fI.spec]) iQ.spec .none := eqn Tryz.f99
theorem eJ.eq : Eqn (Q []) eJ.spec .none := eqn Tryz.f356
theorem dQ.eq : Eqn (Q []) dQ.spec .none := eqn Tryz.f238
end Go.Mach
