/-
  Proved here: the law renlaw12.EvalNames returns true for every input of the stated bulk and leaves its arguments as they were; no further condition.
  By an AI agent; no person has read it.
-/
import Derived.Test.YtimhplnifencnaaGreatDoorPartf
import Derived.KernelRfl
import Derived.Test.YtimhplnifencnaaGreatDoorProg
set_option linter.all false
set_option linter.deprecated false
set_option linter.unusedVariables false
set_option maxRecDepth 100000
namespace Go.Mach
open Go.Proofs
theorem parse_parser_unary.eq (G : bC) : Eqn (Q [aY.spec, parse_parser_calls.spec G, bH.spec, aH.spec, parse_parser_unary.spec G, gn.spec, dn.spec]) (parse_parser_unary.g.sp 353 fun x => R.parse_parser_unary G x) (.r (.r (.two (.piece [(.nrm, ⟨[], rg 8 12 ++ rg 33 4, [], []⟩), (.ret, ⟨[], [4] ++ rg 8 47 ++ rg 57 5, [(0, aE), (1, (.box ke))], []⟩)] (.two (.piece [(.nrm, ⟨[(15, vb)], rg 8 7, [], []⟩)] .none) (.l (.l (.r (.r (.r (.l (.r (.r (.l (.piece [(.nrm, ⟨[], rg 46 9, [], []⟩)] (.l (.piece [(.nrm, ⟨[(54, vb)], rg 46 8, [], []⟩)] .none)))))))))))))) (.r (.l (.r (.l (.piece [(.nrm, ⟨[(78, vb)], rg 66 12, [], []⟩)] .none)))))))) := eqn Tryz.f353
theorem eval_run_act.eq (G : ax) : Eqn (Q [fl 257 .str, eval_run_block.spec G, eval_run_decls.spec G, eval_run_expression.spec G, eval_run_statement.spec G, eval_run_try.spec G, eQ.spec]) (eval_run_act.g.sp 221 fun x => R.eval_run_act G x.1 x.2.1 x.2.2.1 x.2.2.2) (.r (.r (.r (.l (.r (.l (.r (.r (.r (.r (.two (.piece [(.nrm, ⟨[(52, vb)], [53, 54], [], []⟩)] .none) (.r (.r (.r (.r (.r (.r (.r (.r (.r (.r (.r (.r (.r (.r (.r (.r (.r (.r (.l (.r (.l (.l (.piece [(.nrm, ⟨[(150, vb)], rg 141 9, [], []⟩)] .none)))))))))))))))))))))))))))))))))) := eqn Tryz.f221
theorem dC.eq : Eqn (Q [cc.spec, bt.spec, eZ.spec, bX.spec, eE.spec, dZ.spec, aC.spec, al.spec, fQ.spec]) dC.spec (.r (.r (.r (.r (.r (.two (.piece [(.nrm, ⟨[(15, vb)], rg 92 6, [], []⟩)] .none) (.l (.l (.l (.piece [(.nrm, ⟨[(98, vb)], rg 99 26, [], []⟩)] (.two (.piece [(.nrm, ⟨[(98, vb)], rg 99 8, [], []⟩)] .none) (.r (.l (.piece [(.nrm, ⟨[(98, vb)], rg 107 11, [], []⟩)] .none)))))))))))))) := eqn Tryz.f388
theorem fg.eq : Eqn (Q [dH.spec]) fg.spec (.r (.r (.r (.l (.r (.l (.loop ⟨[(5, (false, (.own .h))), (6, vi)], [2, 3, 4, 7, 8] ++ rg 12 43, [], []⟩ [(.ext 0, ⟨[(5, (false, (.own .h)))], [2, 3, 4, 6, 7, 8] ++ rg 12 43, [], []⟩), (.ret, ⟨[(2, (false, (.own .h))), (3, vi), (4, vi)], rg 5 4 ++ rg 12 43, [], []⟩)] (.r (.l (.r (.l (.l (.l (.piece [(.nrm, ⟨[(36, vb)], rg 37 6, [], []⟩)] .none)))))))))))))) := eqn Tryz.f126
theorem dP.eq : Eqn (Q []) dP.spec (.r (.r (.r (.l (.r (.l (.loop ⟨[(17, vi)], [4, 5, 7] ++ rg 18 17, [(2, (.own .i))], []⟩ [(.ext 0, ⟨[], [4, 5, 7] ++ rg 17 18, [(2, (.own .i))], []⟩)] (.r (.r (.l (.l (.r (.r (.l (.loop ⟨[(25, vi)], [7] ++ rg 26 8, [(2, (.own .i))], []⟩ [(.ext 2, ⟨[], [7] ++ rg 25 9, [(2, (.own .i))], []⟩)] .none))))))))))))))) := eqn Tryz.f77
theorem cC.eq : Eqn (Q []) cC.spec (.r (.l (.r (.l (.loop ⟨[(8, vi)], [4, 5] ++ rg 9 34, [], []⟩ [(.ext 0, ⟨[], [4, 5] ++ rg 8 35, [], []⟩), (.ret, ⟨[(4, vb)], [5] ++ rg 8 35, [], []⟩)] (.r (.r (.l (.l (.r (.l (.piece [(.nrm, ⟨[(41, vb)], rg 11 30, [], []⟩)] .none)))))))))))) := eqn Tryz.f231
theorem bK.eq : Eqn (Q [a8.spec]) bK.spec (.r (.r (.l (.l (.loop ⟨[(5, (false, (.own .y)))], rg 6 24, [(0, bP)], []⟩ [(.ext 0, ⟨[(5, (false, (.own .y)))], rg 6 24, [(0, bP)], []⟩)] .none))))) := eqn Tryz.f265
theorem dX.eq : Eqn (Q [fm.spec, ej.spec, aZ.spec, aC.spec, cd.spec]) dX.spec (.r (.r (.l (.l (.l (.piece [(.nrm, ⟨[(26, vb)], rg 27 6, [], []⟩)] .none)))))) := eqn Tryz.f320
theorem cR.eq : Eqn (Q []) cR.spec (.r (.r (.l (.r (.l (.loop ⟨[(3, (false, (.own .h))), (4, vi)], rg 5 13, [], []⟩ [(.ext 0, ⟨[(3, (false, (.own .h)))], rg 4 14, [], []⟩)] .none)))))) := eqn Tryz.f31
theorem parse_parser_arguments.eq (G : bC) : Eqn (Q [parse_parser_list.spec G, aM.spec]) (parse_parser_arguments.g.sp 404 fun x => R.parse_parser_arguments G x) .none := eqn Tryz.f404
theorem fQ.eq : Eqn (Q [eh.spec, fO.spec]) fQ.spec (.r (.l (.r (.l (.piece [(.nrm, ⟨[(12, vb)], rg 5 7, [], []⟩)] .none))))) := eqn Tryz.f410
theorem aw.eq : Eqn (Q [cr.spec]) aw.spec .none := eqn Tryz.f236
theorem bf.eq : Eqn (Q [bZ.spec]) bf.spec .none := eqn Tryz.f415
theorem ak.eq : Eqn (Q [bO.spec, de.spec]) ak.spec .none := eqn Tryz.f193
theorem aM.eq : Eqn (Q [aF.spec]) aM.spec .none := eqn Tryz.f271
theorem eB.eq : Eqn (Q [dX.spec]) eB.spec .none := eqn Tryz.f309
theorem gO.eq : Eqn (Q [od 123, eh.spec]) gO.spec .none := eqn Tryz.f68
theorem cZ.eq : Eqn (Q []) cZ.spec .none := eqn Tryz.f135
theorem dn.eq : Eqn (Q []) dn.spec .none := eqn Tryz.f136
theorem ed.eq : Eqn (Q []) ed.spec .none := eqn Tryz.f107
theorem gx.eq : Eqn (Q []) gx.spec .none := eqn Tryz.f79
end Go.Mach
set_option linter.unusedVariables false
set_option maxRecDepth 100000
namespace Go.Mach
open Go.Proofs
theorem cX.eq : Eqn (Q [gT.spec]) cX.spec (.r (.r (.r (.r (.l (.l (.loop ⟨[], [3, 6, 7, 8] ++ rg 27 63, [(0, bP), (2, (.box (.seq .i (.seq .s (.seq (.own .h) (.seq (.frz aL) (.seq (.seq .b (.own .w)) (.seq .i .b))))))))], []⟩ [(.ext 0, ⟨[], [3, 6, 7, 8] ++ rg 27 63, [(0, bP)], [2]⟩), (.ret, ⟨[(3, vi)], [6, 7, 8] ++ rg 27 63, [(0, bP), (1, (.box (.seq .i (.seq .s (.seq (.own .h) (.seq (.frz aL) (.seq (.seq .b (.own .w)) (.seq .i .b))))))))], [2]⟩)] (.two (.l (.piece [(.nrm, ⟨[(50, vb)], rg 27 23, [], []⟩)] .none)) (.l (.r (.r (.r (.l (.piece [(.nrm, ⟨[], [72, 73], [], []⟩)] .none)))))))))))))) := eqn Tryz.f235
theorem eC.eq : Eqn (Q [cN.spec, eZ.spec, ak.spec, aC.spec, dz.spec]) eC.spec (.r (.r (.r (.r (.r (.two (.piece [(.nrm, ⟨[(16, vi)], [15] ++ rg 44 10, [], []⟩), (.ret, ⟨[(11, vi)], [15, 16] ++ rg 44 15, [(2, aJ), (5, (.box (.frz aA)))], [0, 1]⟩)] .none) (.l (.piece [(.nrm, ⟨[(16, vi)], rg 59 24 ++ rg 87 9, [], []⟩), (.ret, ⟨[(11, vi)], rg 59 28, [(2, aJ), (5, (.box (.frz aA)))], [0, 1]⟩)] (.l (.l (.piece [(.nrm, ⟨[(59, vb)], rg 60 23, [], []⟩)] .none))))))))))) := eqn Tryz.f396
theorem cG.eq : Eqn (Q [aY.spec, bH.spec, aq.spec, aM.spec, aF.spec]) cG.spec (.r (.r (.r (.r (.l (.loop ⟨[(3, (false, (.own (.frz (.rose aB)))))], [2] ++ rg 9 16, [(0, aE)], []⟩ [(.ret, ⟨[(2, (false, (.own (.frz (.rose aB)))))], [3] ++ rg 9 16, [(0, aE)], []⟩)] (.l (.r (.l (.l (.piece [(.nrm, ⟨[(21, vb)], rg 15 6, [(0, aE)], []⟩)] .none))))))))))) := eqn Tryz.f277
theorem eval_run_called.eq (G : ax) : Eqn (Q [bo.spec, eval_run_expression.spec G, dU.spec, eval_run_parts.spec G]) (eval_run_called.g.sp 345 fun x => R.eval_run_called G x.1 x.2.1 x.2.2) (.r (.r (.two (.l (.piece [(.nrm, ⟨[(30, vb)], rg 23 7, [], []⟩)] .none)) (.r (.r (.l (.piece [(.nrm, ⟨[(14, vi)], rg 54 8, [(2, aJ), (15, (.box (.frz aA)))], [11, 12]⟩)] .none))))))) := eqn Tryz.f345
theorem parse_parser_item.eq (G : bC) : Eqn (Q [dQ.spec, parse_parser_declares.spec G, bU.spec, aq.spec, aH.spec, parse_parser_statement.spec G, aF.spec]) (parse_parser_item.g.sp 211 fun x => R.parse_parser_item G x) (.r (.l (.r (.l (.l (.piece [(.nrm, ⟨[(8, vb)], rg 9 6, [], []⟩)] .none)))))) := eqn Tryz.f211
theorem aO.eq : Eqn (Q [dI.spec]) aO.spec (.r (.l (.r (.l (.loop ⟨[(8, vi)], [4, 5] ++ rg 9 10, [], []⟩ [(.ext 0, ⟨[], [4, 5] ++ rg 8 11, [], []⟩), (.ret, ⟨[(4, vi)], [5] ++ rg 8 11, [], []⟩)] .none))))) := eqn Tryz.f246
theorem dF.eq : Eqn (Q [cg.spec, dV.spec, eb.spec, aZ.spec, al.spec, aK.spec, eo.spec]) dF.spec (.r (.r (.l (.piece [(.nrm, ⟨[(8, vs)], [25, 26], [], []⟩)] .none)))) := eqn Tryz.f375
theorem cF.eq : Eqn (Q []) cF.spec (.r (.l (.r (.l (.loop ⟨[(8, vi)], [4, 5] ++ rg 9 10, [], []⟩ [(.ext 0, ⟨[], [4, 5] ++ rg 8 11, [], []⟩), (.ret, ⟨[(4, vi)], [5] ++ rg 8 11, [], []⟩)] .none))))) := eqn Tryz.f204
theorem bR.eq : Eqn (Q []) bR.spec (.r (.l (.loop ⟨[(2, vi), (3, vi)], rg 7 21, [(0, (.own .y))], []⟩ [(.ext 0, ⟨[], [2, 3] ++ rg 7 21, [(0, (.own .y))], []⟩)] .none))) := eqn Tryz.f125
theorem eval_run_expression.eq (G : ax) : Eqn (Q [bo.spec, eval_run_value.spec G]) (eval_run_expression.g.sp 249 fun x => R.eval_run_expression G x.1 x.2.1 x.2.2) .none := eqn Tryz.f249
theorem db.eq : Eqn (Q []) db.spec (.r (.l (.r (.l (.r (.r (.l (.piece [(.nrm, ⟨[(7, vb)], [8, 9], [], []⟩)] .none)))))))) := eqn Tryz.f130
theorem fe.eq : Eqn (Q [iv.spec, iw.spec, dO.spec, eD.spec]) fe.spec .none := eqn Tryz.f48
theorem aC.eq : Eqn (Q [cE.spec, bO.spec]) aC.spec .none := eqn Tryz.f335
theorem bx.eq : Eqn (Q [cJ.spec, cx.spec]) bx.spec .none := eqn Tryz.f10
theorem aq.eq : Eqn (Q [aH.spec]) aq.spec .none := eqn Tryz.f242
theorem de.eq : Eqn (Q [fF.spec]) de.spec .none := eqn Tryz.f214
theorem cU.eq : Eqn (Q [fl 70 (.int .u16)]) cU.spec .none := eqn Tryz.f82
theorem dx.eq : Eqn (Q []) dx.spec .none := eqn Tryz.f133
theorem eQ.eq : Eqn (Q []) eQ.spec .none := eqn Tryz.f255
theorem eO.eq : Eqn (Q []) eO.spec .none := eqn Tryz.f154
theorem eK.eq : Eqn (Q []) eK.spec .none := eqn Tryz.f27
end Go.Mach
set_option linter.unusedVariables false
set_option maxRecDepth 100000
namespace Go.Mach
open Go.Proofs
theorem cm.eq : Eqn (Q [dc.spec, eP.spec, dK.spec]) cm.spec (.r (.r (.r (.l (.l (.two (.piece [(.nrm, ⟨[(17, vb)], rg 18 8, [], []⟩)] .none) (.two (.r (.l (.loop ⟨[(6, (false, (.own .s))), (29, vi)], [8, 9] ++ rg 30 27, [], []⟩ [(.ext 1, ⟨[(6, (false, (.own .s)))], [8, 9] ++ rg 29 28, [], []⟩)] .none))) (.two (.piece [(.nrm, ⟨[(57, vb)], rg 58 15, [], []⟩)] .none) (.r (.two (.piece [(.nrm, ⟨[(79, vb)], rg 80 8, [], []⟩)] .none) (.r (.r (.l (.r (.l (.loop ⟨[(6, (false, (.own .s))), (98, vi)], [11] ++ rg 99 20, [], []⟩ [(.ext 4, ⟨[(6, (false, (.own .s)))], [11] ++ rg 98 21, [], []⟩)] .none)))))))))))))))) := eqn Tryz.f138
theorem fF.eq : Eqn (Q [fl 284 (.int .u8), fl 70 (.int .u16), lO 112 282 cB, lO 112 283 bE, dp.spec]) fF.spec (.r (.r (.two (.r (.l (.loop ⟨[(26, vi)], [3, 4] ++ rg 27 16, [(7, (.own (.frz cB)))], []⟩ [(.ext 0, ⟨[], [3, 4] ++ rg 26 17, [(7, (.own (.frz cB)))], []⟩)] .none))) (.l (.r (.l (.loop ⟨[(46, vi)], [5, 6] ++ rg 47 13, [(8, (.own (.frz bE)))], []⟩ [(.ext 2, ⟨[], [5, 6] ++ rg 46 14, [(8, (.own (.frz bE)))], []⟩)] .none))))))) := eqn Tryz.f245
theorem dE.eq : Eqn (Q [gY.spec, gT.spec, cC.spec]) dE.spec (.r (.l (.r (.r (.l (.l (.loop ⟨[(5, vb)], [2, 3, 4] ++ rg 6 67, [(0, bP)], []⟩ [(.ext 0, ⟨[(5, vb)], [2, 3, 4] ++ rg 6 67, [(0, bP)], []⟩)] (.r (.l (.r (.l (.l (.two (.piece [(.nrm, ⟨[(30, vb)], rg 31 6, [], []⟩)] .none) (.two (.l (.piece [(.nrm, ⟨[(5, vb)], rg 37 5, [], []⟩)] .none)) (.l (.piece [(.nrm, ⟨[(49, vb)], rg 50 6, [], []⟩)] .none)))))))))))))))) := eqn Tryz.f207
theorem eval_run_try.eq (G : ax) : Eqn (Q [eval_run_catch.spec G, eval_run_statement.spec G]) (eval_run_try.g.sp 256 fun x => R.eval_run_try G x.1 x.2.1 x.2.2) (.r (.r (.two (.piece [(.nrm, ⟨[], [8] ++ rg 16 29, [(2, aJ), (9, (.box (.frz ai)))], [6, 7]⟩)] (.r (.l (.piece [(.nrm, ⟨[(33, vb)], rg 26 7, [], []⟩)] .none)))) (.l (.l (.piece [(.nrm, ⟨[(61, vb)], rg 45 16, [], []⟩)] .none)))))) := eqn Tryz.f256
theorem eu.eq : Eqn (Q []) eu.spec (.r (.r (.l (.r (.l (.loop ⟨[(15, vi)], [4, 5, 7] ++ rg 16 29, [(2, (.own .i))], []⟩ [(.ext 0, ⟨[], [4, 5, 7] ++ rg 15 30, [(2, (.own .i))], []⟩)] (.r (.r (.l (.l (.r (.r (.r (.l (.loop ⟨[(31, vi)], [7] ++ rg 32 12, [(2, (.own .i))], []⟩ [(.ext 2, ⟨[], [7] ++ rg 31 13, [(2, (.own .i))], []⟩)] .none))))))))))))))) := eqn Tryz.f42
theorem ah.eq : Eqn (Q [aw.spec]) ah.spec (.r (.r (.l (.l (.loop ⟨[(5, (false, (.own .y)))], rg 6 24, [(0, bP)], []⟩ [(.ext 0, ⟨[(5, (false, (.own .y)))], rg 6 24, [(0, bP)], []⟩)] .none))))) := eqn Tryz.f265
theorem dH.eq : Eqn (Q []) dH.spec (.r (.l (.r (.l (.loop ⟨[(8, vi)], [2, 3, 5] ++ rg 9 8, [], []⟩ [(.ext 0, ⟨[], [2, 3, 5] ++ rg 8 9, [], []⟩), (.ret, ⟨[(2, (false, (.frz (.int .i32)))), (3, vi)], [5] ++ rg 8 9, [], []⟩)] .none))))) := eqn Tryz.f177
theorem bF.eq : Eqn (Q []) bF.spec (.r (.l (.r (.l (.loop ⟨[(8, vi)], [4, 5] ++ rg 9 10, [], []⟩ [(.ext 0, ⟨[], [4, 5] ++ rg 8 11, [], []⟩), (.ret, ⟨[(4, vi)], [5] ++ rg 8 11, [], []⟩)] .none))))) := eqn Tryz.f184
theorem eval_run_callee.eq (G : ax) : Eqn (Q [eval_run_arguments.spec G, eval_run_call.spec G, eval_run_called.spec G]) (eval_run_callee.g.sp 327 fun x => R.eval_run_callee G x.1 x.2.1 x.2.2) .none := eqn Tryz.f327
theorem eval_run_parts.eq (G : ax) : Eqn (Q [cU.spec, eval_run_expression.spec G, av.spec]) (eval_run_parts.g.sp 340 fun x => R.eval_run_parts G x.1 x.2.1 x.2.2) .none := eqn Tryz.f340
theorem eb.eq : Eqn (Q [cP.spec]) eb.spec (.r (.r (.l (.l (.piece [(.nrm, ⟨[(13, vb)], rg 5 8, [], []⟩)] .none))))) := eqn Tryz.f348
theorem cf.eq : Eqn (Q [bj.spec, cD.spec, dp.spec]) cf.spec .none := eqn Tryz.f219
theorem cN.eq : Eqn (Q [bk.spec, cc.spec, gJ.spec]) cN.spec .none := eqn Tryz.f366
theorem eE.eq : Eqn (Q [ch.spec, al.spec]) eE.spec .none := eqn Tryz.f413
theorem aF.eq : Eqn (Q [au.spec]) aF.spec .none := eqn Tryz.f241
theorem dY.eq : Eqn (Q [cm.spec]) dY.spec .none := eqn Tryz.f288
theorem eh.eq : Eqn (Q [fi.spec, fA.spec]) eh.spec .none := eqn Tryz.f100
theorem dc.eq : Eqn (Q []) dc.spec .none := eqn Tryz.f185
theorem fT.eq : Eqn (Q []) fT.spec .none := eqn Tryz.f358
theorem fO.eq : Eqn (Q []) fO.spec .none := eqn Tryz.f102
theorem gv.eq : Eqn (Q []) gv.spec .none := eqn Tryz.f55
end Go.Mach
set_option linter.unusedVariables false
set_option maxRecDepth 100000
namespace Go.Mach
open Go.Proofs
theorem eval_run_apply.eq (G : ax) : Eqn (Q [bX.spec, ba.spec, eval_run_expression.spec G, eval_run_list.spec G, bL.spec, az.spec, al.spec]) (eval_run_apply.g.sp 351 fun x => R.eval_run_apply G x.1 x.2.1 x.2.2.1 x.2.2.2) (.r (.r (.r (.r (.r (.two (.piece [(.nrm, ⟨[], rg 46 12, [(9, (.box (.frz aP)))], []⟩)] .none) (.r (.r (.two (.r (.l (.loop ⟨[(76, vi)], [17, 18] ++ rg 77 23, [(7, gA)], [6]⟩ [(.ext 1, ⟨[], [17, 18] ++ rg 76 24, [(7, gA)], [6]⟩)] .none))) (.r (.r (.r (.r (.l (.r (.l (.r (.r (.l (.piece [(.nrm, ⟨[(150, vb)], [151, 152], [], []⟩)] .none)))))))))))))))))))) := eqn Tryz.f351
theorem parse_parser_list.eq (G : bC) : Eqn (Q [parse_parser_assign.spec G, bH.spec, aM.spec, aF.spec]) (parse_parser_list.g.sp 426 fun x => R.parse_parser_list G x.1 x.2) (.r (.r (.r (.l (.loop ⟨[(5, (false, (.own (.frz (.rose aB)))))], [4] ++ rg 10 16, [(0, aE)], []⟩ [(.ret, ⟨[(4, (false, (.own (.frz (.rose aB)))))], [5] ++ rg 10 16, [(0, aE)], []⟩)] (.l (.r (.l (.l (.piece [(.nrm, ⟨[(22, vb)], rg 15 7, [(0, aE)], []⟩)] .none)))))))))) := eqn Tryz.f426
theorem parse_parser_word.eq (G : bC) : Eqn (Q [aU.spec, parse_parser_assign.spec G, bU.spec, aH.spec, parse_parser_simple.spec G]) (parse_parser_word.g.sp 280 fun x => R.parse_parser_word G x.1 x.2) (.r (.l (.r (.l (.r (.r (.r (.r (.r (.r (.r (.r (.r (.r (.r (.r (.r (.two (.r (.l (.piece [(.nrm, ⟨[], [93, 94, 95], [], []⟩)] .none))) (.r (.r (.l (.piece [(.nrm, ⟨[(109, vb)], [110, 111, 112], [], []⟩)] .none)))))))))))))))))))))) := eqn Tryz.f280
theorem cb.eq : Eqn (Q [dQ.spec, aX.spec, au.spec]) cb.spec (.r (.r (.r (.l (.piece [(.nrm, ⟨[(3, vi)], [2] ++ rg 7 19, [], []⟩), (.ret, ⟨[(2, vb)], [3] ++ rg 7 19, [], []⟩)] (.r (.l (.l (.loop ⟨[(3, vi)], [2] ++ rg 12 14, [], []⟩ [(.ext 0, ⟨[(3, vi)], [2] ++ rg 12 14, [], []⟩), (.ret, ⟨[(2, vb)], [3] ++ rg 12 14, [], []⟩)] .none))))))))) := eqn Tryz.f300
theorem parse_parser_member.eq (G : bC) : Eqn (Q [aU.spec, aY.spec, parse_parser_assign.spec G, aM.spec, aH.spec, aF.spec]) (parse_parser_member.g.sp 405 fun x => R.parse_parser_member G x.1 x.2) (.r (.l (.l (.r (.l (.r (.l (.l (.piece [(.nrm, ⟨[(19, vb)], rg 12 7, [], []⟩)] .none))))))))) := eqn Tryz.f405
theorem parse_parser_body.eq (G : bC) : Eqn (Q [aU.spec, parse_parser_assign.spec G, aM.spec, aH.spec, au.spec]) (parse_parser_body.g.sp 299 fun x => R.parse_parser_body G x.1 x.2) (.r (.l (.piece [(.nrm, ⟨[], [6, 7, 8], [], []⟩)] .none))) := eqn Tryz.f299
theorem eval_run_call.eq (G : ax) : Eqn (Q [fT.spec, eb.spec, eval_run_apply.spec G, eval_run_does.spec G, aC.spec, bl.spec]) (eval_run_call.g.sp 346 fun x => R.eval_run_call G x.1 x.2.1 x.2.2.1 x.2.2.2) .none := eqn Tryz.f346
theorem eval_run_catch.eq (G : ax) : Eqn (Q [bL.spec, eval_run_statement.spec G, az.spec]) (eval_run_catch.g.sp 293 fun x => R.eval_run_catch G x.1 x.2.1 x.2.2.1 x.2.2.2.1 x.2.2.2.2) .none := eqn Tryz.f293
theorem eT.eq : Eqn (Q []) eT.spec (.r (.r (.l (.r (.l (.loop ⟨[(5, (false, (.own .i))), (8, vi)], rg 9 5, [], []⟩ [(.ext 0, ⟨[(5, (false, (.own .i)))], rg 8 6, [], []⟩)] .none)))))) := eqn Tryz.f132
theorem cc.eq : Eqn (Q [bk.spec, eG.spec]) cc.spec (.r (.r (.l (.r (.l (.r (.r (.l (.piece [(.nrm, ⟨[(13, vb)], [14, 15], [], []⟩)] .none))))))))) := eqn Tryz.f26
theorem bN.eq : Eqn (Q [ba.spec, eval_run_list.spec (bS fuel), bL.spec]) bN.spec .none := eqn Tryz.f80
theorem cx.eq : Eqn (Q [cJ.spec, cR.spec, cS.spec]) cx.spec .none := eqn Tryz.f34
theorem bn.eq : Eqn (Q [cF.spec]) bn.spec .none := eqn Tryz.f174
theorem bY.eq : Eqn (Q [bf.spec]) bY.spec .none := eqn Tryz.f387
theorem eU.eq : Eqn (Q [aK.spec]) eU.spec .none := eqn Tryz.f189
theorem aZ.eq : Eqn (Q [bO.spec]) aZ.spec .none := eqn Tryz.f310
theorem dO.eq : Eqn (Q [eK.spec]) dO.spec .none := eqn Tryz.f85
theorem dK.eq : Eqn (Q []) dK.spec .none := eqn Tryz.f187
theorem eH.eq : Eqn (Q []) eH.spec .none := eqn Tryz.f182
theorem gH.eq : Eqn (Q []) gH.spec .none := eqn Tryz.f156
theorem fA.eq : Eqn (Q []) fA.spec .none := eqn Tryz.f106
end Go.Mach
