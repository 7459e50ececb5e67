/-
  Proved here: the law renlaw12.EvalThrows returns true for every input of the stated bulk and leaves its arguments as they were; no further condition.
  By an AI agent; no person has read it.
-/
import Derived.Test.YtimhplnifencnaaGreatDoorPartf
import Derived.KernelRfl
import Derived.Test.YtimhplnifencnaaGreatDoorProg
set_option linter.all false
set_option linter.deprecated false
set_option linter.unusedVariables false
set_option maxRecDepth 100000
namespace Go.Mach
open Go.Proofs
theorem parse_parser_unary.eq (G : a8) : Eqn (Q [aX.spec, parse_parser_calls.spec G, bD.spec, aF.spec, parse_parser_unary.spec G, gg.spec, di.spec]) (parse_parser_unary.g.sp 353 fun x => R.parse_parser_unary G x) (.r (.r (.two (.piece [(.nrm, ⟨[], rg 8 12 ++ rg 33 4, [], []⟩), (.ret, ⟨[], [4] ++ rg 8 47 ++ rg 57 5, [(0, aD), (1, (.box kJ))], []⟩)] (.two (.piece [(.nrm, ⟨[(15, vb)], rg 8 7, [], []⟩)] .none) (.l (.l (.r (.r (.r (.l (.r (.r (.l (.piece [(.nrm, ⟨[], rg 46 9, [], []⟩)] (.l (.piece [(.nrm, ⟨[(54, vb)], rg 46 8, [], []⟩)] .none)))))))))))))) (.r (.l (.r (.l (.piece [(.nrm, ⟨[(78, vb)], rg 66 12, [], []⟩)] .none)))))))) := eqn Tryz.f353
theorem eval_run_act.eq (G : aw) : Eqn (Q [fi 257 .str, eval_run_block.spec G, eval_run_decls.spec G, eval_run_expression.spec G, eval_run_statement.spec G, eval_run_try.spec G, eQ.spec]) (eval_run_act.g.sp 221 fun x => R.eval_run_act G x.1 x.2.1 x.2.2.1 x.2.2.2) (.r (.r (.r (.l (.r (.l (.r (.r (.r (.r (.two (.piece [(.nrm, ⟨[(52, vb)], [53, 54], [], []⟩)] .none) (.r (.r (.r (.r (.r (.r (.r (.r (.r (.r (.r (.r (.r (.r (.r (.r (.r (.r (.l (.r (.l (.l (.piece [(.nrm, ⟨[(150, vb)], rg 141 9, [], []⟩)] .none)))))))))))))))))))))))))))))))))) := eqn Tryz.f221
theorem dA.eq : Eqn (Q [cZ.spec, bj.spec, ec.spec, bT.spec, dw.spec, dX.spec, aC.spec, aj.spec, fL.spec]) dA.spec (.r (.r (.r (.r (.r (.two (.piece [(.nrm, ⟨[(15, vb)], rg 92 6, [], []⟩)] .none) (.l (.l (.l (.piece [(.nrm, ⟨[(98, vb)], rg 99 26, [], []⟩)] (.two (.piece [(.nrm, ⟨[(98, vb)], rg 99 8, [], []⟩)] .none) (.r (.l (.piece [(.nrm, ⟨[(98, vb)], rg 107 11, [], []⟩)] .none)))))))))))))) := eqn Tryz.f388
theorem fY.eq : Eqn (Q [dD.spec]) fY.spec (.r (.r (.r (.l (.r (.l (.loop ⟨[(5, (false, (.own .h))), (6, vi)], [2, 3, 4, 7, 8] ++ rg 12 43, [], []⟩ [(.ext 0, ⟨[(5, (false, (.own .h)))], [2, 3, 4, 6, 7, 8] ++ rg 12 43, [], []⟩), (.ret, ⟨[(2, (false, (.own .h))), (3, vi), (4, vi)], rg 5 4 ++ rg 12 43, [], []⟩)] (.r (.l (.r (.l (.l (.l (.piece [(.nrm, ⟨[(36, vb)], rg 37 6, [], []⟩)] .none)))))))))))))) := eqn Tryz.f126
theorem dL.eq : Eqn (Q []) dL.spec (.r (.r (.r (.l (.r (.l (.loop ⟨[(17, vi)], [4, 5, 7] ++ rg 18 17, [(2, (.own .i))], []⟩ [(.ext 0, ⟨[], [4, 5, 7] ++ rg 17 18, [(2, (.own .i))], []⟩)] (.r (.r (.l (.l (.r (.r (.l (.loop ⟨[(25, vi)], [7] ++ rg 26 8, [(2, (.own .i))], []⟩ [(.ext 2, ⟨[], [7] ++ rg 25 9, [(2, (.own .i))], []⟩)] .none))))))))))))))) := eqn Tryz.f77
theorem bx.eq : Eqn (Q []) bx.spec (.r (.l (.r (.l (.loop ⟨[(8, vi)], [4, 5] ++ rg 9 34, [], []⟩ [(.ext 0, ⟨[], [4, 5] ++ rg 8 35, [], []⟩), (.ret, ⟨[(4, vb)], [5] ++ rg 8 35, [], []⟩)] (.r (.r (.l (.l (.r (.l (.piece [(.nrm, ⟨[(41, vb)], rg 11 30, [], []⟩)] .none)))))))))))) := eqn Tryz.f231
theorem bH.eq : Eqn (Q [az.spec]) bH.spec (.r (.r (.l (.l (.loop ⟨[(5, (false, (.own .y)))], rg 6 24, [(0, bP)], []⟩ [(.ext 0, ⟨[(5, (false, (.own .y)))], rg 6 24, [(0, bP)], []⟩)] .none))))) := eqn Tryz.f265
theorem da.eq : Eqn (Q [fl.spec, ef.spec, aY.spec, aC.spec, cc.spec]) da.spec (.r (.r (.l (.l (.l (.piece [(.nrm, ⟨[(26, vb)], rg 27 6, [], []⟩)] .none)))))) := eqn Tryz.f320
theorem dS.eq : Eqn (Q []) dS.spec (.r (.r (.l (.r (.l (.loop ⟨[(3, (false, (.own .h))), (4, vi)], rg 5 13, [], []⟩ [(.ext 0, ⟨[(3, (false, (.own .h)))], rg 4 14, [], []⟩)] .none)))))) := eqn Tryz.f31
theorem parse_parser_arguments.eq (G : a8) : Eqn (Q [parse_parser_list.spec G, aM.spec]) (parse_parser_arguments.g.sp 404 fun x => R.parse_parser_arguments G x) .none := eqn Tryz.f404
theorem fL.eq : Eqn (Q [eg.spec, fM.spec]) fL.spec (.r (.l (.r (.l (.piece [(.nrm, ⟨[(12, vb)], rg 5 7, [], []⟩)] .none))))) := eqn Tryz.f410
theorem av.eq : Eqn (Q [cn.spec]) av.spec .none := eqn Tryz.f236
theorem bY.eq : Eqn (Q [bV.spec]) bY.spec .none := eqn Tryz.f415
theorem ai.eq : Eqn (Q [bM.spec, dY.spec]) ai.spec .none := eqn Tryz.f193
theorem aM.eq : Eqn (Q [aE.spec]) aM.spec .none := eqn Tryz.f271
theorem dz.eq : Eqn (Q [da.spec]) dz.spec .none := eqn Tryz.f309
theorem gM.eq : Eqn (Q [ou 123, eg.spec]) gM.spec .none := eqn Tryz.f68
theorem cY.eq : Eqn (Q []) cY.spec .none := eqn Tryz.f135
theorem di.eq : Eqn (Q []) di.spec .none := eqn Tryz.f136
theorem eb.eq : Eqn (Q []) eb.spec .none := eqn Tryz.f107
theorem gj.eq : Eqn (Q []) gj.spec .none := eqn Tryz.f79
end Go.Mach
set_option linter.unusedVariables false
set_option maxRecDepth 100000
namespace Go.Mach
open Go.Proofs
theorem cP.eq : Eqn (Q [gJ.spec]) cP.spec (.r (.r (.r (.r (.l (.l (.loop ⟨[], [3, 6, 7, 8] ++ rg 27 63, [(0, bP), (2, (.box (.seq .i (.seq .s (.seq (.own .h) (.seq (.frz aL) (.seq (.seq .b (.own .w)) (.seq .i .b))))))))], []⟩ [(.ext 0, ⟨[], [3, 6, 7, 8] ++ rg 27 63, [(0, bP)], [2]⟩), (.ret, ⟨[(3, vi)], [6, 7, 8] ++ rg 27 63, [(0, bP), (1, (.box (.seq .i (.seq .s (.seq (.own .h) (.seq (.frz aL) (.seq (.seq .b (.own .w)) (.seq .i .b))))))))], [2]⟩)] (.two (.l (.piece [(.nrm, ⟨[(50, vb)], rg 27 23, [], []⟩)] .none)) (.l (.r (.r (.r (.l (.piece [(.nrm, ⟨[], [72, 73], [], []⟩)] .none)))))))))))))) := eqn Tryz.f235
theorem eA.eq : Eqn (Q [cK.spec, ec.spec, ai.spec, aC.spec, dv.spec]) eA.spec (.r (.r (.r (.r (.r (.two (.piece [(.nrm, ⟨[(16, vi)], [15] ++ rg 44 10, [], []⟩), (.ret, ⟨[(11, vi)], [15, 16] ++ rg 44 15, [(2, aH), (5, (.box (.frz aA)))], [0, 1]⟩)] .none) (.l (.piece [(.nrm, ⟨[(16, vi)], rg 59 24 ++ rg 87 9, [], []⟩), (.ret, ⟨[(11, vi)], rg 59 28, [(2, aH), (5, (.box (.frz aA)))], [0, 1]⟩)] (.l (.l (.piece [(.nrm, ⟨[(59, vb)], rg 60 23, [], []⟩)] .none))))))))))) := eqn Tryz.f396
theorem cA.eq : Eqn (Q [aX.spec, bD.spec, ak.spec, aM.spec, aE.spec]) cA.spec (.r (.r (.r (.r (.l (.loop ⟨[(3, (false, (.own (.frz (.rose aB)))))], [2] ++ rg 9 16, [(0, aD)], []⟩ [(.ret, ⟨[(2, (false, (.own (.frz (.rose aB)))))], [3] ++ rg 9 16, [(0, aD)], []⟩)] (.l (.r (.l (.l (.piece [(.nrm, ⟨[(21, vb)], rg 15 6, [(0, aD)], []⟩)] .none))))))))))) := eqn Tryz.f277
theorem eval_run_called.eq (G : aw) : Eqn (Q [bh.spec, eval_run_expression.spec G, dQ.spec, eval_run_parts.spec G]) (eval_run_called.g.sp 345 fun x => R.eval_run_called G x.1 x.2.1 x.2.2) (.r (.r (.two (.l (.piece [(.nrm, ⟨[(30, vb)], rg 23 7, [], []⟩)] .none)) (.r (.r (.l (.piece [(.nrm, ⟨[(14, vi)], rg 54 8, [(2, aH), (15, (.box (.frz aA)))], [11, 12]⟩)] .none))))))) := eqn Tryz.f345
theorem parse_parser_item.eq (G : a8) : Eqn (Q [dM.spec, parse_parser_declares.spec G, bQ.spec, ak.spec, aF.spec, parse_parser_statement.spec G, aE.spec]) (parse_parser_item.g.sp 211 fun x => R.parse_parser_item G x) (.r (.l (.r (.l (.l (.piece [(.nrm, ⟨[(8, vb)], rg 9 6, [], []⟩)] .none)))))) := eqn Tryz.f211
theorem aP.eq : Eqn (Q [cx.spec]) aP.spec (.r (.l (.r (.l (.loop ⟨[(8, vi)], [4, 5] ++ rg 9 10, [], []⟩ [(.ext 0, ⟨[], [4, 5] ++ rg 8 11, [], []⟩), (.ret, ⟨[(4, vi)], [5] ++ rg 8 11, [], []⟩)] .none))))) := eqn Tryz.f246
theorem cy.eq : Eqn (Q [cb.spec, dP.spec, eV.spec, aY.spec, aj.spec, aJ.spec, eh.spec]) cy.spec (.r (.r (.l (.piece [(.nrm, ⟨[(8, vs)], [25, 26], [], []⟩)] .none)))) := eqn Tryz.f375
theorem cB.eq : Eqn (Q []) cB.spec (.r (.l (.r (.l (.loop ⟨[(8, vi)], [4, 5] ++ rg 9 10, [], []⟩ [(.ext 0, ⟨[], [4, 5] ++ rg 8 11, [], []⟩), (.ret, ⟨[(4, vi)], [5] ++ rg 8 11, [], []⟩)] .none))))) := eqn Tryz.f204
theorem bN.eq : Eqn (Q []) bN.spec (.r (.l (.loop ⟨[(2, vi), (3, vi)], rg 7 21, [(0, (.own .y))], []⟩ [(.ext 0, ⟨[], [2, 3] ++ rg 7 21, [(0, (.own .y))], []⟩)] .none))) := eqn Tryz.f125
theorem eval_run_expression.eq (G : aw) : Eqn (Q [bh.spec, eval_run_value.spec G]) (eval_run_expression.g.sp 249 fun x => R.eval_run_expression G x.1 x.2.1 x.2.2) .none := eqn Tryz.f249
theorem dW.eq : Eqn (Q []) dW.spec (.r (.l (.r (.l (.r (.r (.l (.piece [(.nrm, ⟨[(7, vb)], [8, 9], [], []⟩)] .none)))))))) := eqn Tryz.f130
theorem fS.eq : Eqn (Q [iZ.spec, ia.spec, dK.spec, dx.spec]) fS.spec .none := eqn Tryz.f48
theorem aC.eq : Eqn (Q [b9.spec, bM.spec]) aC.spec .none := eqn Tryz.f335
theorem b8.eq : Eqn (Q [cF.spec, cr.spec]) b8.spec .none := eqn Tryz.f10
theorem ak.eq : Eqn (Q [aF.spec]) ak.spec .none := eqn Tryz.f242
theorem dY.eq : Eqn (Q [ez.spec]) dY.spec .none := eqn Tryz.f214
theorem cR.eq : Eqn (Q [fi 70 (.int .u16)]) cR.spec .none := eqn Tryz.f82
theorem du.eq : Eqn (Q []) du.spec .none := eqn Tryz.f133
theorem eQ.eq : Eqn (Q []) eQ.spec .none := eqn Tryz.f255
theorem eK.eq : Eqn (Q []) eK.spec .none := eqn Tryz.f154
theorem eG.eq : Eqn (Q []) eG.spec .none := eqn Tryz.f27
end Go.Mach
set_option linter.unusedVariables false
set_option maxRecDepth 100000
namespace Go.Mach
open Go.Proofs
theorem cf.eq : Eqn (Q [db.spec, eM.spec, dF.spec]) cf.spec (.r (.r (.r (.l (.l (.two (.piece [(.nrm, ⟨[(17, vb)], rg 18 8, [], []⟩)] .none) (.two (.r (.l (.loop ⟨[(6, (false, (.own .s))), (29, vi)], [8, 9] ++ rg 30 27, [], []⟩ [(.ext 1, ⟨[(6, (false, (.own .s)))], [8, 9] ++ rg 29 28, [], []⟩)] .none))) (.two (.piece [(.nrm, ⟨[(57, vb)], rg 58 15, [], []⟩)] .none) (.r (.two (.piece [(.nrm, ⟨[(79, vb)], rg 80 8, [], []⟩)] .none) (.r (.r (.l (.r (.l (.loop ⟨[(6, (false, (.own .s))), (98, vi)], [11] ++ rg 99 20, [], []⟩ [(.ext 4, ⟨[(6, (false, (.own .s)))], [11] ++ rg 98 21, [], []⟩)] .none)))))))))))))))) := eqn Tryz.f138
theorem ez.eq : Eqn (Q [fi 284 (.int .u8), fi 70 (.int .u16), kz 112 282 bw, kz 112 283 bA, dh.spec]) ez.spec (.r (.r (.two (.r (.l (.loop ⟨[(26, vi)], [3, 4] ++ rg 27 16, [(7, (.own (.frz bw)))], []⟩ [(.ext 0, ⟨[], [3, 4] ++ rg 26 17, [(7, (.own (.frz bw)))], []⟩)] .none))) (.l (.r (.l (.loop ⟨[(46, vi)], [5, 6] ++ rg 47 13, [(8, (.own (.frz bA)))], []⟩ [(.ext 2, ⟨[], [5, 6] ++ rg 46 14, [(8, (.own (.frz bA)))], []⟩)] .none))))))) := eqn Tryz.f245
theorem dB.eq : Eqn (Q [gU.spec, gJ.spec, bx.spec]) dB.spec (.r (.l (.r (.r (.l (.l (.loop ⟨[(5, vb)], [2, 3, 4] ++ rg 6 67, [(0, bP)], []⟩ [(.ext 0, ⟨[(5, vb)], [2, 3, 4] ++ rg 6 67, [(0, bP)], []⟩)] (.r (.l (.r (.l (.l (.two (.piece [(.nrm, ⟨[(30, vb)], rg 31 6, [], []⟩)] .none) (.two (.l (.piece [(.nrm, ⟨[(5, vb)], rg 37 5, [], []⟩)] .none)) (.l (.piece [(.nrm, ⟨[(49, vb)], rg 50 6, [], []⟩)] .none)))))))))))))))) := eqn Tryz.f207
theorem eval_run_try.eq (G : aw) : Eqn (Q [eval_run_catch.spec G, eval_run_statement.spec G]) (eval_run_try.g.sp 256 fun x => R.eval_run_try G x.1 x.2.1 x.2.2) (.r (.r (.two (.piece [(.nrm, ⟨[], [8] ++ rg 16 29, [(2, aH), (9, (.box (.frz af)))], [6, 7]⟩)] (.r (.l (.piece [(.nrm, ⟨[(33, vb)], rg 26 7, [], []⟩)] .none)))) (.l (.l (.piece [(.nrm, ⟨[(61, vb)], rg 45 16, [], []⟩)] .none)))))) := eqn Tryz.f256
theorem ej.eq : Eqn (Q []) ej.spec (.r (.r (.l (.r (.l (.loop ⟨[(15, vi)], [4, 5, 7] ++ rg 16 29, [(2, (.own .i))], []⟩ [(.ext 0, ⟨[], [4, 5, 7] ++ rg 15 30, [(2, (.own .i))], []⟩)] (.r (.r (.l (.l (.r (.r (.r (.l (.loop ⟨[(31, vi)], [7] ++ rg 32 12, [(2, (.own .i))], []⟩ [(.ext 2, ⟨[], [7] ++ rg 31 13, [(2, (.own .i))], []⟩)] .none))))))))))))))) := eqn Tryz.f42
theorem ae.eq : Eqn (Q [av.spec]) ae.spec (.r (.r (.l (.l (.loop ⟨[(5, (false, (.own .y)))], rg 6 24, [(0, bP)], []⟩ [(.ext 0, ⟨[(5, (false, (.own .y)))], rg 6 24, [(0, bP)], []⟩)] .none))))) := eqn Tryz.f265
theorem dD.eq : Eqn (Q []) dD.spec (.r (.l (.r (.l (.loop ⟨[(8, vi)], [2, 3, 5] ++ rg 9 8, [], []⟩ [(.ext 0, ⟨[], [2, 3, 5] ++ rg 8 9, [], []⟩), (.ret, ⟨[(2, (false, (.frz (.int .i32)))), (3, vi)], [5] ++ rg 8 9, [], []⟩)] .none))))) := eqn Tryz.f177
theorem bB.eq : Eqn (Q []) bB.spec (.r (.l (.r (.l (.loop ⟨[(8, vi)], [4, 5] ++ rg 9 10, [], []⟩ [(.ext 0, ⟨[], [4, 5] ++ rg 8 11, [], []⟩), (.ret, ⟨[(4, vi)], [5] ++ rg 8 11, [], []⟩)] .none))))) := eqn Tryz.f184
theorem eval_run_callee.eq (G : aw) : Eqn (Q [eval_run_arguments.spec G, eval_run_call.spec G, eval_run_called.spec G]) (eval_run_callee.g.sp 327 fun x => R.eval_run_callee G x.1 x.2.1 x.2.2) .none := eqn Tryz.f327
theorem eval_run_parts.eq (G : aw) : Eqn (Q [cR.spec, eval_run_expression.spec G, au.spec]) (eval_run_parts.g.sp 340 fun x => R.eval_run_parts G x.1 x.2.1 x.2.2) .none := eqn Tryz.f340
theorem eV.eq : Eqn (Q [cL.spec]) eV.spec (.r (.r (.l (.l (.piece [(.nrm, ⟨[(13, vb)], rg 5 8, [], []⟩)] .none))))) := eqn Tryz.f348
theorem ca.eq : Eqn (Q [bd.spec, bz.spec, dh.spec]) ca.spec .none := eqn Tryz.f219
theorem cK.eq : Eqn (Q [bc.spec, cZ.spec, gG.spec]) cK.spec .none := eqn Tryz.f366
theorem dw.eq : Eqn (Q [cd.spec, aj.spec]) dw.spec .none := eqn Tryz.f413
theorem aE.eq : Eqn (Q [al.spec]) aE.spec .none := eqn Tryz.f241
theorem dV.eq : Eqn (Q [cf.spec]) dV.spec .none := eqn Tryz.f288
theorem eg.eq : Eqn (Q [fg.spec, eu.spec]) eg.spec .none := eqn Tryz.f100
theorem db.eq : Eqn (Q []) db.spec .none := eqn Tryz.f185
theorem fO.eq : Eqn (Q []) fO.spec .none := eqn Tryz.f358
theorem fM.eq : Eqn (Q []) fM.spec .none := eqn Tryz.f102
theorem gl.eq : Eqn (Q []) gl.spec .none := eqn Tryz.f55
end Go.Mach
set_option linter.unusedVariables false
set_option maxRecDepth 100000
namespace Go.Mach
open Go.Proofs
theorem eval_run_apply.eq (G : aw) : Eqn (Q [bT.spec, bX.spec, eval_run_expression.spec G, eval_run_list.spec G, bJ.spec, ay.spec, aj.spec]) (eval_run_apply.g.sp 351 fun x => R.eval_run_apply G x.1 x.2.1 x.2.2.1 x.2.2.2) (.r (.r (.r (.r (.r (.two (.piece [(.nrm, ⟨[], rg 46 12, [(9, (.box (.frz aQ)))], []⟩)] .none) (.r (.r (.two (.r (.l (.loop ⟨[(76, vi)], [17, 18] ++ rg 77 23, [(7, fw)], [6]⟩ [(.ext 1, ⟨[], [17, 18] ++ rg 76 24, [(7, fw)], [6]⟩)] .none))) (.r (.r (.r (.r (.l (.r (.l (.r (.r (.l (.piece [(.nrm, ⟨[(150, vb)], [151, 152], [], []⟩)] .none)))))))))))))))))))) := eqn Tryz.f351
theorem parse_parser_list.eq (G : a8) : Eqn (Q [parse_parser_assign.spec G, bD.spec, aM.spec, aE.spec]) (parse_parser_list.g.sp 426 fun x => R.parse_parser_list G x.1 x.2) (.r (.r (.r (.l (.loop ⟨[(5, (false, (.own (.frz (.rose aB)))))], [4] ++ rg 10 16, [(0, aD)], []⟩ [(.ret, ⟨[(4, (false, (.own (.frz (.rose aB)))))], [5] ++ rg 10 16, [(0, aD)], []⟩)] (.l (.r (.l (.l (.piece [(.nrm, ⟨[(22, vb)], rg 15 7, [(0, aD)], []⟩)] .none)))))))))) := eqn Tryz.f426
theorem parse_parser_word.eq (G : a8) : Eqn (Q [aV.spec, parse_parser_assign.spec G, bQ.spec, aF.spec, parse_parser_simple.spec G]) (parse_parser_word.g.sp 280 fun x => R.parse_parser_word G x.1 x.2) (.r (.l (.r (.l (.r (.r (.r (.r (.r (.r (.r (.r (.r (.r (.r (.r (.r (.two (.r (.l (.piece [(.nrm, ⟨[], [93, 94, 95], [], []⟩)] .none))) (.r (.r (.l (.piece [(.nrm, ⟨[(109, vb)], [110, 111, 112], [], []⟩)] .none)))))))))))))))))))))) := eqn Tryz.f280
theorem cW.eq : Eqn (Q [dM.spec, aW.spec, al.spec]) cW.spec (.r (.r (.r (.l (.piece [(.nrm, ⟨[(3, vi)], [2] ++ rg 7 19, [], []⟩), (.ret, ⟨[(2, vb)], [3] ++ rg 7 19, [], []⟩)] (.r (.l (.l (.loop ⟨[(3, vi)], [2] ++ rg 12 14, [], []⟩ [(.ext 0, ⟨[(3, vi)], [2] ++ rg 12 14, [], []⟩), (.ret, ⟨[(2, vb)], [3] ++ rg 12 14, [], []⟩)] .none))))))))) := eqn Tryz.f300
theorem parse_parser_member.eq (G : a8) : Eqn (Q [aV.spec, aX.spec, parse_parser_assign.spec G, aM.spec, aF.spec, aE.spec]) (parse_parser_member.g.sp 405 fun x => R.parse_parser_member G x.1 x.2) (.r (.l (.l (.r (.l (.r (.l (.l (.piece [(.nrm, ⟨[(19, vb)], rg 12 7, [], []⟩)] .none))))))))) := eqn Tryz.f405
theorem parse_parser_body.eq (G : a8) : Eqn (Q [aV.spec, parse_parser_assign.spec G, aM.spec, aF.spec, al.spec]) (parse_parser_body.g.sp 299 fun x => R.parse_parser_body G x.1 x.2) (.r (.l (.piece [(.nrm, ⟨[], [6, 7, 8], [], []⟩)] .none))) := eqn Tryz.f299
theorem eval_run_call.eq (G : aw) : Eqn (Q [fO.spec, eV.spec, eval_run_apply.spec G, eval_run_does.spec G, aC.spec, bf.spec]) (eval_run_call.g.sp 346 fun x => R.eval_run_call G x.1 x.2.1 x.2.2.1 x.2.2.2) .none := eqn Tryz.f346
theorem eval_run_catch.eq (G : aw) : Eqn (Q [bJ.spec, eval_run_statement.spec G, ay.spec]) (eval_run_catch.g.sp 293 fun x => R.eval_run_catch G x.1 x.2.1 x.2.2.1 x.2.2.2.1 x.2.2.2.2) .none := eqn Tryz.f293
theorem eP.eq : Eqn (Q []) eP.spec (.r (.r (.l (.r (.l (.loop ⟨[(5, (false, (.own .i))), (8, vi)], rg 9 5, [], []⟩ [(.ext 0, ⟨[(5, (false, (.own .i)))], rg 8 6, [], []⟩)] .none)))))) := eqn Tryz.f132
theorem cZ.eq : Eqn (Q [bc.spec, eB.spec]) cZ.spec (.r (.r (.l (.r (.l (.r (.r (.l (.piece [(.nrm, ⟨[(13, vb)], [14, 15], [], []⟩)] .none))))))))) := eqn Tryz.f26
theorem bL.eq : Eqn (Q [bX.spec, eval_run_list.spec (bI fuel), bJ.spec]) bL.spec .none := eqn Tryz.f80
theorem cr.eq : Eqn (Q [cF.spec, dS.spec, cS.spec]) cr.spec .none := eqn Tryz.f34
theorem bg.eq : Eqn (Q [cB.spec]) bg.spec .none := eqn Tryz.f174
theorem bU.eq : Eqn (Q [bY.spec]) bU.spec .none := eqn Tryz.f387
theorem eS.eq : Eqn (Q [aJ.spec]) eS.spec .none := eqn Tryz.f189
theorem aY.eq : Eqn (Q [bM.spec]) aY.spec .none := eqn Tryz.f310
theorem dK.eq : Eqn (Q [eG.spec]) dK.spec .none := eqn Tryz.f85
theorem dF.eq : Eqn (Q []) dF.spec .none := eqn Tryz.f187
theorem eF.eq : Eqn (Q []) eF.spec .none := eqn Tryz.f182
theorem gF.eq : Eqn (Q []) gF.spec .none := eqn Tryz.f156
theorem eu.eq : Eqn (Q []) eu.spec .none := eqn Tryz.f106
end Go.Mach
