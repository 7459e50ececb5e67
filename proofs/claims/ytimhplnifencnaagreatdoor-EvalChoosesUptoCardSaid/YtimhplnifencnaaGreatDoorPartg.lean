/-
  Proved here: the law renlaw12.EvalChooses returns true for every input of the stated bulk and leaves its arguments as they were; no further condition.
  By an AI agent; no person has read it.
-/
import Derived.Test.YtimhplnifencnaaGreatDoorPartf
import Derived.KernelRfl
import Derived.Test.YtimhplnifencnaaGreatDoorProg
set_option linter.all false
set_option linter.deprecated false
set_option linter.unusedVariables false
set_option maxRecDepth 100000
namespace Go.Mach
open Go.Proofs
theorem parse_parser_unary.eq (G : bN) : Eqn (Q [ak.spec, parse_parser_calls.spec G, bS.spec, aK.spec, parse_parser_unary.spec G, iJ.spec, eL.spec]) (parse_parser_unary.g.sp 353 fun x => R.parse_parser_unary G x) (.r (.r (.two (.piece [(.nrm, ⟨[], rg 8 12 ++ rg 33 4, [], []⟩), (.ret, ⟨[], [4] ++ rg 8 47 ++ rg 57 5, [(0, aI), (1, (.box kn))], []⟩)] (.two (.piece [(.nrm, ⟨[(15, vb)], rg 8 7, [], []⟩)] .none) (.l (.l (.r (.r (.r (.l (.r (.r (.l (.piece [(.nrm, ⟨[], rg 46 9, [], []⟩)] (.l (.piece [(.nrm, ⟨[(54, vb)], rg 46 8, [], []⟩)] .none)))))))))))))) (.r (.l (.r (.l (.piece [(.nrm, ⟨[(78, vb)], rg 66 12, [], []⟩)] .none)))))))) := eqn Tryz.f353
theorem eval_run_act.eq (G : bH) : Eqn (Q [gO 257 .str, eval_run_block.spec G, eval_run_decls.spec G, eval_run_expression.spec G, eval_run_statement.spec G, eval_run_try.spec G, er.spec]) (eval_run_act.g.sp 221 fun x => R.eval_run_act G x.1 x.2.1 x.2.2.1 x.2.2.2) (.r (.r (.r (.l (.r (.l (.r (.r (.r (.r (.two (.piece [(.nrm, ⟨[(52, vb)], [53, 54], [], []⟩)] .none) (.r (.r (.r (.r (.r (.r (.r (.r (.r (.r (.r (.r (.r (.r (.r (.r (.r (.r (.l (.r (.l (.l (.piece [(.nrm, ⟨[(150, vb)], rg 141 9, [], []⟩)] .none)))))))))))))))))))))))))))))))))) := eqn Tryz.f221
theorem dd.eq : Eqn (Q [dE.spec, cE.spec, fG.spec, bl.spec, eY.spec, eG.spec, aH.spec, bB.spec, fj.spec]) dd.spec (.r (.r (.r (.r (.r (.two (.piece [(.nrm, ⟨[(15, vb)], rg 92 6, [], []⟩)] .none) (.l (.l (.l (.piece [(.nrm, ⟨[(98, vb)], rg 99 26, [], []⟩)] (.two (.piece [(.nrm, ⟨[(98, vb)], rg 99 8, [], []⟩)] .none) (.r (.l (.piece [(.nrm, ⟨[(98, vb)], rg 107 11, [], []⟩)] .none)))))))))))))) := eqn Tryz.f388
theorem gC.eq : Eqn (Q [da.spec]) gC.spec (.r (.r (.r (.l (.r (.l (.loop ⟨[(5, (false, (.own .h))), (6, vi)], [2, 3, 4, 7, 8] ++ rg 12 43, [], []⟩ [(.ext 0, ⟨[(5, (false, (.own .h)))], [2, 3, 4, 6, 7, 8] ++ rg 12 43, [], []⟩), (.ret, ⟨[(2, (false, (.own .h))), (3, vi), (4, vi)], rg 5 4 ++ rg 12 43, [], []⟩)] (.r (.l (.r (.l (.l (.l (.piece [(.nrm, ⟨[(36, vb)], rg 37 6, [], []⟩)] .none)))))))))))))) := eqn Tryz.f126
theorem dn.eq : Eqn (Q []) dn.spec (.r (.r (.r (.l (.r (.l (.loop ⟨[(17, vi)], [4, 5, 7] ++ rg 18 17, [(2, (.own .i))], []⟩ [(.ext 0, ⟨[], [4, 5, 7] ++ rg 17 18, [(2, (.own .i))], []⟩)] (.r (.r (.l (.l (.r (.r (.l (.loop ⟨[(25, vi)], [7] ++ rg 26 8, [(2, (.own .i))], []⟩ [(.ext 2, ⟨[], [7] ++ rg 25 9, [(2, (.own .i))], []⟩)] .none))))))))))))))) := eqn Tryz.f77
theorem cR.eq : Eqn (Q []) cR.spec (.r (.l (.r (.l (.loop ⟨[(8, vi)], [4, 5] ++ rg 9 34, [], []⟩ [(.ext 0, ⟨[], [4, 5] ++ rg 8 35, [], []⟩), (.ret, ⟨[(4, vb)], [5] ++ rg 8 35, [], []⟩)] (.r (.r (.l (.l (.r (.l (.piece [(.nrm, ⟨[(41, vb)], rg 11 30, [], []⟩)] .none)))))))))))) := eqn Tryz.f231
theorem bV.eq : Eqn (Q [bK.spec]) bV.spec (.r (.r (.l (.l (.loop ⟨[(5, (false, (.own .y)))], rg 6 24, [(0, ba)], []⟩ [(.ext 0, ⟨[(5, (false, (.own .y)))], rg 6 24, [(0, ba)], []⟩)] .none))))) := eqn Tryz.f265
theorem eC.eq : Eqn (Q [gP.spec, fL.spec, al.spec, aH.spec, dG.spec]) eC.spec (.r (.r (.l (.l (.l (.piece [(.nrm, ⟨[(26, vb)], rg 27 6, [], []⟩)] .none)))))) := eqn Tryz.f320
theorem dx.eq : Eqn (Q []) dx.spec (.r (.r (.l (.r (.l (.loop ⟨[(3, (false, (.own .h))), (4, vi)], rg 5 13, [], []⟩ [(.ext 0, ⟨[(3, (false, (.own .h)))], rg 4 14, [], []⟩)] .none)))))) := eqn Tryz.f31
theorem parse_parser_arguments.eq (G : bN) : Eqn (Q [parse_parser_list.spec G, aU.spec]) (parse_parser_arguments.g.sp 404 fun x => R.parse_parser_arguments G x) .none := eqn Tryz.f404
theorem fj.eq : Eqn (Q [fJ.spec, fl.spec]) fj.spec (.r (.l (.r (.l (.piece [(.nrm, ⟨[(12, vb)], rg 5 7, [], []⟩)] .none))))) := eqn Tryz.f410
theorem bG.eq : Eqn (Q [dQ.spec]) bG.spec .none := eqn Tryz.f236
theorem bt.eq : Eqn (Q [bo.spec]) bt.spec .none := eqn Tryz.f415
theorem a8.eq : Eqn (Q [bY.spec, eB.spec]) a8.spec .none := eqn Tryz.f193
theorem aU.eq : Eqn (Q [aJ.spec]) aU.spec .none := eqn Tryz.f271
theorem eZ.eq : Eqn (Q [eC.spec]) eZ.spec .none := eqn Tryz.f309
theorem gv.eq : Eqn (Q [o9 123, fJ.spec]) gv.spec .none := eqn Tryz.f68
theorem dB.eq : Eqn (Q []) dB.spec .none := eqn Tryz.f135
theorem eL.eq : Eqn (Q []) eL.spec .none := eqn Tryz.f136
theorem ep.eq : Eqn (Q []) ep.spec .none := eqn Tryz.f107
theorem iN.eq : Eqn (Q []) iN.spec .none := eqn Tryz.f79
end Go.Mach
set_option linter.unusedVariables false
set_option maxRecDepth 100000
namespace Go.Mach
open Go.Proofs
theorem cy.eq : Eqn (Q [gu.spec]) cy.spec (.r (.r (.r (.r (.l (.l (.loop ⟨[], [3, 6, 7, 8] ++ rg 27 63, [(0, ba), (2, (.box (.seq .i (.seq .s (.seq (.own .h) (.seq (.frz aS) (.seq (.seq .b (.own .w)) (.seq .i .b))))))))], []⟩ [(.ext 0, ⟨[], [3, 6, 7, 8] ++ rg 27 63, [(0, ba)], [2]⟩), (.ret, ⟨[(3, vi)], [6, 7, 8] ++ rg 27 63, [(0, ba), (1, (.box (.seq .i (.seq .s (.seq (.own .h) (.seq (.frz aS) (.seq (.seq .b (.own .w)) (.seq .i .b))))))))], [2]⟩)] (.two (.l (.piece [(.nrm, ⟨[(50, vb)], rg 27 23, [], []⟩)] .none)) (.l (.r (.r (.r (.l (.piece [(.nrm, ⟨[], [72, 73], [], []⟩)] .none)))))))))))))) := eqn Tryz.f235
theorem eW.eq : Eqn (Q [cg.spec, fG.spec, a8.spec, aH.spec, eV.spec]) eW.spec (.r (.r (.r (.r (.r (.two (.piece [(.nrm, ⟨[(16, vi)], [15] ++ rg 44 10, [], []⟩), (.ret, ⟨[(11, vi)], [15, 16] ++ rg 44 15, [(2, aM), (5, (.box (.frz aB)))], [0, 1]⟩)] .none) (.l (.piece [(.nrm, ⟨[(16, vi)], rg 59 24 ++ rg 87 9, [], []⟩), (.ret, ⟨[(11, vi)], rg 59 28, [(2, aM), (5, (.box (.frz aB)))], [0, 1]⟩)] (.l (.l (.piece [(.nrm, ⟨[(59, vb)], rg 60 23, [], []⟩)] .none))))))))))) := eqn Tryz.f396
theorem cT.eq : Eqn (Q [ak.spec, bS.spec, bD.spec, aU.spec, aJ.spec]) cT.spec (.r (.r (.r (.r (.l (.loop ⟨[(3, (false, (.own (.frz (.rose aC)))))], [2] ++ rg 9 16, [(0, aI)], []⟩ [(.ret, ⟨[(2, (false, (.own (.frz (.rose aC)))))], [3] ++ rg 9 16, [(0, aI)], []⟩)] (.l (.r (.l (.l (.piece [(.nrm, ⟨[(21, vb)], rg 15 6, [(0, aI)], []⟩)] .none))))))))))) := eqn Tryz.f277
theorem eval_run_called.eq (G : bH) : Eqn (Q [cC.spec, eval_run_expression.spec G, dy.spec, eval_run_parts.spec G]) (eval_run_called.g.sp 345 fun x => R.eval_run_called G x.1 x.2.1 x.2.2) (.r (.r (.two (.l (.piece [(.nrm, ⟨[(30, vb)], rg 23 7, [], []⟩)] .none)) (.r (.r (.l (.piece [(.nrm, ⟨[(14, vi)], rg 54 8, [(2, aM), (15, (.box (.frz aB)))], [11, 12]⟩)] .none))))))) := eqn Tryz.f345
theorem parse_parser_item.eq (G : bN) : Eqn (Q [du.spec, parse_parser_declares.spec G, bj.spec, bD.spec, aK.spec, parse_parser_statement.spec G, aJ.spec]) (parse_parser_item.g.sp 211 fun x => R.parse_parser_item G x) (.r (.l (.r (.l (.l (.piece [(.nrm, ⟨[(8, vb)], rg 9 6, [], []⟩)] .none)))))) := eqn Tryz.f211
theorem aW.eq : Eqn (Q [dc.spec]) aW.spec (.r (.l (.r (.l (.loop ⟨[(8, vi)], [4, 5] ++ rg 9 10, [], []⟩ [(.ext 0, ⟨[], [4, 5] ++ rg 8 11, [], []⟩), (.ret, ⟨[(4, vi)], [5] ++ rg 8 11, [], []⟩)] .none))))) := eqn Tryz.f246
theorem db.eq : Eqn (Q [dH.spec, dw.spec, fD.spec, al.spec, bB.spec, aQ.spec, fK.spec]) db.spec (.r (.r (.l (.piece [(.nrm, ⟨[(8, vs)], [25, 26], [], []⟩)] .none)))) := eqn Tryz.f375
theorem cS.eq : Eqn (Q []) cS.spec (.r (.l (.r (.l (.loop ⟨[(8, vi)], [4, 5] ++ rg 9 10, [], []⟩ [(.ext 0, ⟨[], [4, 5] ++ rg 8 11, [], []⟩), (.ret, ⟨[(4, vi)], [5] ++ rg 8 11, [], []⟩)] .none))))) := eqn Tryz.f204
theorem bZ.eq : Eqn (Q []) bZ.spec (.r (.l (.loop ⟨[(2, vi), (3, vi)], rg 7 21, [(0, (.own .y))], []⟩ [(.ext 0, ⟨[], [2, 3] ++ rg 7 21, [(0, (.own .y))], []⟩)] .none))) := eqn Tryz.f125
theorem eval_run_expression.eq (G : bH) : Eqn (Q [cC.spec, eval_run_value.spec G]) (eval_run_expression.g.sp 249 fun x => R.eval_run_expression G x.1 x.2.1 x.2.2) .none := eqn Tryz.f249
theorem eH.eq : Eqn (Q []) eH.spec (.r (.l (.r (.l (.r (.r (.l (.piece [(.nrm, ⟨[(7, vb)], [8, 9], [], []⟩)] .none)))))))) := eqn Tryz.f130
theorem gF.eq : Eqn (Q [jP.spec, jJ.spec, dp.spec, eT.spec]) gF.spec .none := eqn Tryz.f48
theorem aH.eq : Eqn (Q [cO.spec, bY.spec]) aH.spec .none := eqn Tryz.f335
theorem cP.eq : Eqn (Q [cX.spec, dU.spec]) cP.spec .none := eqn Tryz.f10
theorem bD.eq : Eqn (Q [aK.spec]) bD.spec .none := eqn Tryz.f242
theorem eB.eq : Eqn (Q [fZ.spec]) eB.spec .none := eqn Tryz.f214
theorem cz.eq : Eqn (Q [gO 70 (.int .u16)]) cz.spec .none := eqn Tryz.f82
theorem eP.eq : Eqn (Q []) eP.spec .none := eqn Tryz.f133
theorem er.eq : Eqn (Q []) er.spec .none := eqn Tryz.f255
theorem ej.eq : Eqn (Q []) ej.spec .none := eqn Tryz.f154
theorem eg.eq : Eqn (Q []) eg.spec .none := eqn Tryz.f27
end Go.Mach
set_option linter.unusedVariables false
set_option maxRecDepth 100000
namespace Go.Mach
open Go.Proofs
theorem dK.eq : Eqn (Q [eA.spec, eu.spec, dh.spec]) dK.spec (.r (.r (.r (.l (.l (.two (.piece [(.nrm, ⟨[(17, vb)], rg 18 8, [], []⟩)] .none) (.two (.r (.l (.loop ⟨[(6, (false, (.own .s))), (29, vi)], [8, 9] ++ rg 30 27, [], []⟩ [(.ext 1, ⟨[(6, (false, (.own .s)))], [8, 9] ++ rg 29 28, [], []⟩)] .none))) (.two (.piece [(.nrm, ⟨[(57, vb)], rg 58 15, [], []⟩)] .none) (.r (.two (.piece [(.nrm, ⟨[(79, vb)], rg 80 8, [], []⟩)] .none) (.r (.r (.l (.r (.l (.loop ⟨[(6, (false, (.own .s))), (98, vi)], [11] ++ rg 99 20, [], []⟩ [(.ext 4, ⟨[(6, (false, (.own .s)))], [11] ++ rg 98 21, [], []⟩)] .none)))))))))))))))) := eqn Tryz.f138
theorem fZ.eq : Eqn (Q [gO 284 (.int .u8), gO 70 (.int .u16), lb 112 282 cM, lb 112 283 bO, eJ.spec]) fZ.spec (.r (.r (.two (.r (.l (.loop ⟨[(26, vi)], [3, 4] ++ rg 27 16, [(7, (.own (.frz cM)))], []⟩ [(.ext 0, ⟨[], [3, 4] ++ rg 26 17, [(7, (.own (.frz cM)))], []⟩)] .none))) (.l (.r (.l (.loop ⟨[(46, vi)], [5, 6] ++ rg 47 13, [(8, (.own (.frz bO)))], []⟩ [(.ext 2, ⟨[], [5, 6] ++ rg 46 14, [(8, (.own (.frz bO)))], []⟩)] .none))))))) := eqn Tryz.f245
theorem de.eq : Eqn (Q [gy.spec, gu.spec, cR.spec]) de.spec (.r (.l (.r (.r (.l (.l (.loop ⟨[(5, vb)], [2, 3, 4] ++ rg 6 67, [(0, ba)], []⟩ [(.ext 0, ⟨[(5, vb)], [2, 3, 4] ++ rg 6 67, [(0, ba)], []⟩)] (.r (.l (.r (.l (.l (.two (.piece [(.nrm, ⟨[(30, vb)], rg 31 6, [], []⟩)] .none) (.two (.l (.piece [(.nrm, ⟨[(5, vb)], rg 37 5, [], []⟩)] .none)) (.l (.piece [(.nrm, ⟨[(49, vb)], rg 50 6, [], []⟩)] .none)))))))))))))))) := eqn Tryz.f207
theorem eval_run_try.eq (G : bH) : Eqn (Q [eval_run_catch.spec G, eval_run_statement.spec G]) (eval_run_try.g.sp 256 fun x => R.eval_run_try G x.1 x.2.1 x.2.2) (.r (.r (.two (.piece [(.nrm, ⟨[], [8] ++ rg 16 29, [(2, aM), (9, (.box (.frz az)))], [6, 7]⟩)] (.r (.l (.piece [(.nrm, ⟨[(33, vb)], rg 26 7, [], []⟩)] .none)))) (.l (.l (.piece [(.nrm, ⟨[(61, vb)], rg 45 16, [], []⟩)] .none)))))) := eqn Tryz.f256
theorem fQ.eq : Eqn (Q []) fQ.spec (.r (.r (.l (.r (.l (.loop ⟨[(15, vi)], [4, 5, 7] ++ rg 16 29, [(2, (.own .i))], []⟩ [(.ext 0, ⟨[], [4, 5, 7] ++ rg 15 30, [(2, (.own .i))], []⟩)] (.r (.r (.l (.l (.r (.r (.r (.l (.loop ⟨[(31, vi)], [7] ++ rg 32 12, [(2, (.own .i))], []⟩ [(.ext 2, ⟨[], [7] ++ rg 31 13, [(2, (.own .i))], []⟩)] .none))))))))))))))) := eqn Tryz.f42
theorem ay.eq : Eqn (Q [bG.spec]) ay.spec (.r (.r (.l (.l (.loop ⟨[(5, (false, (.own .y)))], rg 6 24, [(0, ba)], []⟩ [(.ext 0, ⟨[(5, (false, (.own .y)))], rg 6 24, [(0, ba)], []⟩)] .none))))) := eqn Tryz.f265
theorem da.eq : Eqn (Q []) da.spec (.r (.l (.r (.l (.loop ⟨[(8, vi)], [2, 3, 5] ++ rg 9 8, [], []⟩ [(.ext 0, ⟨[], [2, 3, 5] ++ rg 8 9, [], []⟩), (.ret, ⟨[(2, (false, (.frz (.int .i32)))), (3, vi)], [5] ++ rg 8 9, [], []⟩)] .none))))) := eqn Tryz.f177
theorem bQ.eq : Eqn (Q []) bQ.spec (.r (.l (.r (.l (.loop ⟨[(8, vi)], [4, 5] ++ rg 9 10, [], []⟩ [(.ext 0, ⟨[], [4, 5] ++ rg 8 11, [], []⟩), (.ret, ⟨[(4, vi)], [5] ++ rg 8 11, [], []⟩)] .none))))) := eqn Tryz.f184
theorem eval_run_callee.eq (G : bH) : Eqn (Q [eval_run_arguments.spec G, eval_run_call.spec G, eval_run_called.spec G]) (eval_run_callee.g.sp 327 fun x => R.eval_run_callee G x.1 x.2.1 x.2.2) .none := eqn Tryz.f327
theorem eval_run_parts.eq (G : bH) : Eqn (Q [cz.spec, eval_run_expression.spec G, bF.spec]) (eval_run_parts.g.sp 340 fun x => R.eval_run_parts G x.1 x.2.1 x.2.2) .none := eqn Tryz.f340
theorem fD.eq : Eqn (Q [ch.spec]) fD.spec (.r (.r (.l (.l (.piece [(.nrm, ⟨[(13, vb)], rg 5 8, [], []⟩)] .none))))) := eqn Tryz.f348
theorem dF.eq : Eqn (Q [b9.spec, cN.spec, eJ.spec]) dF.spec .none := eqn Tryz.f219
theorem cg.eq : Eqn (Q [bw.spec, dE.spec, gh.spec]) cg.spec .none := eqn Tryz.f366
theorem eY.eq : Eqn (Q [dJ.spec, bB.spec]) eY.spec .none := eqn Tryz.f413
theorem aJ.eq : Eqn (Q [bE.spec]) aJ.spec .none := eqn Tryz.f241
theorem eE.eq : Eqn (Q [dK.spec]) eE.spec .none := eqn Tryz.f288
theorem fJ.eq : Eqn (Q [fi.spec, fT.spec]) fJ.spec .none := eqn Tryz.f100
theorem eA.eq : Eqn (Q []) eA.spec .none := eqn Tryz.f185
theorem fo.eq : Eqn (Q []) fo.spec .none := eqn Tryz.f358
theorem fl.eq : Eqn (Q []) fl.spec .none := eqn Tryz.f102
theorem iM.eq : Eqn (Q []) iM.spec .none := eqn Tryz.f55
end Go.Mach
set_option linter.unusedVariables false
set_option maxRecDepth 100000
namespace Go.Mach
open Go.Proofs
theorem eval_run_apply.eq (G : bH) : Eqn (Q [bl.spec, bu.spec, eval_run_expression.spec G, eval_run_list.spec G, bW.spec, bJ.spec, bB.spec]) (eval_run_apply.g.sp 351 fun x => R.eval_run_apply G x.1 x.2.1 x.2.2.1 x.2.2.2) (.r (.r (.r (.r (.r (.two (.piece [(.nrm, ⟨[], rg 46 12, [(9, (.box (.frz aX)))], []⟩)] .none) (.r (.r (.two (.r (.l (.loop ⟨[(76, vi)], [17, 18] ++ rg 77 23, [(7, gS)], [6]⟩ [(.ext 1, ⟨[], [17, 18] ++ rg 76 24, [(7, gS)], [6]⟩)] .none))) (.r (.r (.r (.r (.l (.r (.l (.r (.r (.l (.piece [(.nrm, ⟨[(150, vb)], [151, 152], [], []⟩)] .none)))))))))))))))))))) := eqn Tryz.f351
theorem parse_parser_list.eq (G : bN) : Eqn (Q [parse_parser_assign.spec G, bS.spec, aU.spec, aJ.spec]) (parse_parser_list.g.sp 426 fun x => R.parse_parser_list G x.1 x.2) (.r (.r (.r (.l (.loop ⟨[(5, (false, (.own (.frz (.rose aC)))))], [4] ++ rg 10 16, [(0, aI)], []⟩ [(.ret, ⟨[(4, (false, (.own (.frz (.rose aC)))))], [5] ++ rg 10 16, [(0, aI)], []⟩)] (.l (.r (.l (.l (.piece [(.nrm, ⟨[(22, vb)], rg 15 7, [(0, aI)], []⟩)] .none)))))))))) := eqn Tryz.f426
theorem parse_parser_word.eq (G : bN) : Eqn (Q [ai.spec, parse_parser_assign.spec G, bj.spec, aK.spec, parse_parser_simple.spec G]) (parse_parser_word.g.sp 280 fun x => R.parse_parser_word G x.1 x.2) (.r (.l (.r (.l (.r (.r (.r (.r (.r (.r (.r (.r (.r (.r (.r (.r (.r (.two (.r (.l (.piece [(.nrm, ⟨[], [93, 94, 95], [], []⟩)] .none))) (.r (.r (.l (.piece [(.nrm, ⟨[(109, vb)], [110, 111, 112], [], []⟩)] .none)))))))))))))))))))))) := eqn Tryz.f280
theorem dA.eq : Eqn (Q [du.spec, aj.spec, bE.spec]) dA.spec (.r (.r (.r (.l (.piece [(.nrm, ⟨[(3, vi)], [2] ++ rg 7 19, [], []⟩), (.ret, ⟨[(2, vb)], [3] ++ rg 7 19, [], []⟩)] (.r (.l (.l (.loop ⟨[(3, vi)], [2] ++ rg 12 14, [], []⟩ [(.ext 0, ⟨[(3, vi)], [2] ++ rg 12 14, [], []⟩), (.ret, ⟨[(2, vb)], [3] ++ rg 12 14, [], []⟩)] .none))))))))) := eqn Tryz.f300
theorem parse_parser_member.eq (G : bN) : Eqn (Q [ai.spec, ak.spec, parse_parser_assign.spec G, aU.spec, aK.spec, aJ.spec]) (parse_parser_member.g.sp 405 fun x => R.parse_parser_member G x.1 x.2) (.r (.l (.l (.r (.l (.r (.l (.l (.piece [(.nrm, ⟨[(19, vb)], rg 12 7, [], []⟩)] .none))))))))) := eqn Tryz.f405
theorem parse_parser_body.eq (G : bN) : Eqn (Q [ai.spec, parse_parser_assign.spec G, aU.spec, aK.spec, bE.spec]) (parse_parser_body.g.sp 299 fun x => R.parse_parser_body G x.1 x.2) (.r (.l (.piece [(.nrm, ⟨[], [6, 7, 8], [], []⟩)] .none))) := eqn Tryz.f299
theorem eval_run_call.eq (G : bH) : Eqn (Q [fo.spec, fD.spec, eval_run_apply.spec G, eval_run_does.spec G, aH.spec, cA.spec]) (eval_run_call.g.sp 346 fun x => R.eval_run_call G x.1 x.2.1 x.2.2.1 x.2.2.2) .none := eqn Tryz.f346
theorem eval_run_catch.eq (G : bH) : Eqn (Q [bW.spec, eval_run_statement.spec G, bJ.spec]) (eval_run_catch.g.sp 293 fun x => R.eval_run_catch G x.1 x.2.1 x.2.2.1 x.2.2.2.1 x.2.2.2.2) .none := eqn Tryz.f293
theorem ew.eq : Eqn (Q []) ew.spec (.r (.r (.l (.r (.l (.loop ⟨[(5, (false, (.own .i))), (8, vi)], rg 9 5, [], []⟩ [(.ext 0, ⟨[(5, (false, (.own .i)))], rg 8 6, [], []⟩)] .none)))))) := eqn Tryz.f132
theorem dE.eq : Eqn (Q [bw.spec, ec.spec]) dE.spec (.r (.r (.l (.r (.l (.r (.r (.l (.piece [(.nrm, ⟨[(13, vb)], [14, 15], [], []⟩)] .none))))))))) := eqn Tryz.f26
theorem au.eq : Eqn (Q [bu.spec, eval_run_list.spec (bc fuel), bW.spec]) au.spec .none := eqn Tryz.f80
theorem dU.eq : Eqn (Q [cX.spec, dx.spec, di.spec]) dU.spec .none := eqn Tryz.f34
theorem cD.eq : Eqn (Q [cS.spec]) cD.spec .none := eqn Tryz.f174
theorem bn.eq : Eqn (Q [bt.spec]) bn.spec .none := eqn Tryz.f387
theorem ez.eq : Eqn (Q [aQ.spec]) ez.spec .none := eqn Tryz.f189
theorem al.eq : Eqn (Q [bY.spec]) al.spec .none := eqn Tryz.f310
theorem dp.eq : Eqn (Q [eg.spec]) dp.spec .none := eqn Tryz.f85
theorem dh.eq : Eqn (Q []) dh.spec .none := eqn Tryz.f187
theorem ef.eq : Eqn (Q []) ef.spec .none := eqn Tryz.f182
theorem gl.eq : Eqn (Q []) gl.spec .none := eqn Tryz.f156
theorem fT.eq : Eqn (Q []) fT.spec .none := eqn Tryz.f106
end Go.Mach
