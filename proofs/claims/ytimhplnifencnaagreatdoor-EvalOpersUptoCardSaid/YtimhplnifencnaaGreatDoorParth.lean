/-
  Proved here: the law renlaw12.EvalOpers returns true for every input of the stated bulk and leaves its arguments as they were; no further condition.
  By an AI agent; no person has read it.
-/
import Derived.Test.YtimhplnifencnaaGreatDoorPartg
import Derived.KernelRfl
import Derived.Test.YtimhplnifencnaaGreatDoorProg
set_option linter.all false
set_option linter.deprecated false
set_option linter.unusedVariables false
set_option maxRecDepth 100000
namespace Go.Mach
open Go.Proofs
theorem parse_parser_unary.eq (G : bK) : Eqn (Q [ak.spec, parse_parser_calls.spec G, bM.spec, aK.spec, parse_parser_unary.spec G, jX.spec, ee.spec]) (parse_parser_unary.g.sp 353 fun x => R.parse_parser_unary G x) (.r (.r (.two (.piece [(.nrm, ⟨[], rg 8 12 ++ rg 33 4, [], []⟩), (.ret, ⟨[], [4] ++ rg 8 47 ++ rg 57 5, [(0, aF), (1, (.box mD))], []⟩)] (.two (.piece [(.nrm, ⟨[(15, vb)], rg 8 7, [], []⟩)] .none) (.l (.l (.r (.r (.r (.l (.r (.r (.l (.piece [(.nrm, ⟨[], rg 46 9, [], []⟩)] (.l (.piece [(.nrm, ⟨[(54, vb)], rg 46 8, [], []⟩)] .none)))))))))))))) (.r (.l (.r (.l (.piece [(.nrm, ⟨[(78, vb)], rg 66 12, [], []⟩)] .none)))))))) := eqn Tryz.f353
theorem ev.eq : Eqn (Q [ct.spec, ej.spec, ah.spec, aE.spec, de.spec]) ev.spec (.r (.r (.r (.r (.r (.two (.piece [(.nrm, ⟨[(16, vi)], [15] ++ rg 44 10, [], []⟩), (.ret, ⟨[(11, vi)], [15, 16] ++ rg 44 15, [(2, aM), (5, (.box (.frz aA)))], [0, 1]⟩)] .none) (.l (.piece [(.nrm, ⟨[(16, vi)], rg 59 24 ++ rg 87 9, [], []⟩), (.ret, ⟨[(11, vi)], rg 59 28, [(2, aM), (5, (.box (.frz aA)))], [0, 1]⟩)] (.l (.l (.piece [(.nrm, ⟨[(59, vb)], rg 60 23, [], []⟩)] .none))))))))))) := eqn Tryz.f396
theorem eval_run_act.eq (G : bJ) : Eqn (Q [gn 257 .str, eval_run_decls.spec G, eval_run_expression.spec G, eval_run_statement.spec G, fW.spec]) (eval_run_act.g.sp 221 fun x => R.eval_run_act G x.1 x.2.1 x.2.2.1 x.2.2.2) (.r (.r (.r (.l (.r (.l (.r (.r (.r (.r (.two (.piece [(.nrm, ⟨[(52, vb)], [53, 54], [], []⟩)] .none) (.r (.r (.r (.r (.r (.r (.r (.r (.r (.r (.r (.r (.r (.r (.r (.r (.r (.r (.l (.r (.l (.l (.piece [(.nrm, ⟨[(150, vb)], rg 141 9, [], []⟩)] .none)))))))))))))))))))))))))))))))))) := eqn Tryz.f221
theorem parse_parser_word.eq (G : bK) : Eqn (Q [ae.spec, parse_parser_assign.spec G, bj.spec, aK.spec, parse_parser_simple.spec G]) (parse_parser_word.g.sp 280 fun x => R.parse_parser_word G x.1 x.2) (.r (.l (.r (.l (.r (.r (.r (.r (.r (.r (.r (.r (.r (.r (.r (.r (.r (.two (.r (.l (.piece [(.nrm, ⟨[], [93, 94, 95], [], []⟩)] .none))) (.r (.r (.l (.piece [(.nrm, ⟨[(109, vb)], [110, 111, 112], [], []⟩)] .none)))))))))))))))))))))) := eqn Tryz.f280
theorem eS.eq : Eqn (Q [iV.spec, fx.spec, aO.spec, aE.spec, cU.spec, dL.spec]) eS.spec (.r (.r (.two (.l (.two (.piece [(.nrm, ⟨[(27, vb)], rg 28 6, [], []⟩)] .none) (.r (.l (.piece [(.nrm, ⟨[(38, vb)], rg 39 5, [], []⟩)] .none))))) (.l (.r (.l (.piece [(.nrm, ⟨[(68, vb)], rg 64 4, [], []⟩)] .none))))))) := eqn Tryz.f359
theorem dS.eq : Eqn (Q [cJ.spec, bg.spec, ah.spec, aE.spec]) dS.spec (.r (.r (.l (.piece [(.nrm, ⟨[], [9, 10] ++ rg 12 10 ++ [27, 28], [(5, (.box (.frz aA)))], []⟩), (.ret, ⟨[(7, vi)], [9, 10] ++ rg 12 15, [(2, aM), (4, (.box (.frz aA)))], [0, 1]⟩)] .none)))) := eqn Tryz.f384
theorem av.eq : Eqn (Q [bB.spec]) av.spec (.r (.r (.l (.l (.loop ⟨[(5, (false, (.own .y)))], rg 6 24, [(0, bY)], []⟩ [(.ext 0, ⟨[(5, (false, (.own .y)))], rg 6 24, [(0, bY)], []⟩)] .none))))) := eqn Tryz.f265
theorem bd.eq : Eqn (Q [cK.spec]) bd.spec (.r (.l (.r (.l (.loop ⟨[(11, vi)], rg 4 5 ++ rg 12 19, [], []⟩ [(.ext 0, ⟨[], rg 4 5 ++ rg 11 20, [], []⟩), (.ret, ⟨[(4, vi)], rg 5 4 ++ rg 11 20, [], []⟩)] .none))))) := eqn Tryz.f161
theorem cM.eq : Eqn (Q []) cM.spec (.r (.r (.l (.r (.l (.loop ⟨[(13, vi)], [4, 5] ++ rg 14 12, [], []⟩ [(.ext 0, ⟨[], [4, 5] ++ rg 13 13, [], []⟩), (.ret, ⟨[(4, vb)], [5] ++ rg 13 13, [], []⟩)] .none)))))) := eqn Tryz.f165
theorem aq.eq : Eqn (Q []) aq.spec (.r (.r (.l (.r (.l (.loop ⟨[(3, (false, (.own .h))), (7, vi)], [4] ++ rg 8 10, [], []⟩ [(.ext 0, ⟨[(3, (false, (.own .h)))], [4] ++ rg 7 11, [], []⟩)] .none)))))) := eqn Tryz.f67
theorem jE.eq : Eqn (Q []) jE.spec (.r (.l (.r (.l (.two (.piece [(.nrm, ⟨[(4, vb)], rg 5 50, [], []⟩)] .none) (.r (.l (.piece [(.nrm, ⟨[(55, vb)], rg 56 7, [], []⟩)] .none)))))))) := eqn Tryz.f270
theorem fe.eq : Eqn (Q [dd.spec, jx.spec, ba.spec]) fe.spec (.r (.l (.r (.l (.piece [(.nrm, ⟨[(21, vb)], rg 15 6, [], []⟩)] .none))))) := eqn Tryz.f15
theorem bg.eq : Eqn (Q [iy.spec, gn 70 (.int .u16), bH.spec, i6.spec, aq.spec]) bg.spec .none := eqn Tryz.f32
theorem cy.eq : Eqn (Q [bN.spec, cx.spec, dE.spec]) cy.spec .none := eqn Tryz.f349
theorem jo.eq : Eqn (Q [fE.spec, eY.spec, cD.spec, eP.spec]) jo.spec .none := eqn Tryz.f153
theorem bA.eq : Eqn (Q [eJ.spec, aK.spec]) bA.spec .none := eqn Tryz.f276
theorem cp.eq : Eqn (Q [b8.spec]) cp.spec .none := eqn Tryz.f385
theorem cI.eq : Eqn (Q [aE.spec]) cI.spec .none := eqn Tryz.f338
theorem ey.eq : Eqn (Q [dK.spec]) ey.spec .none := eqn Tryz.f309
theorem iE.eq : Eqn (Q [(fl.spec fuel)]) iE.spec .none := eqn Tryz.f180
theorem dI.eq : Eqn (Q []) dI.spec .none := eqn Tryz.f135
theorem ff.eq : Eqn (Q []) ff.spec .none := eqn Tryz.f16
theorem ia.eq : Eqn (Q []) ia.spec .none := eqn Tryz.f74
theorem eJ.eq : Eqn (Q []) eJ.spec .none := eqn Tryz.f238
end Go.Mach
set_option linter.unusedVariables false
set_option maxRecDepth 100000
namespace Go.Mach
open Go.Proofs
theorem eval_run_fresh.eq (G : bJ) : Eqn (Q [fi.spec, eval_run_apply.spec G, eval_run_builds.spec G, ah.spec, aO.spec, aE.spec, bl.spec, cy.spec, ay.spec, aq.spec]) (eval_run_fresh.g.sp 329 fun x => R.eval_run_fresh G x.1 x.2.1 x.2.2) (.r (.r (.r (.r (.two (.l (.piece [(.nrm, ⟨[(50, vb)], rg 43 7, [], []⟩)] .none)) (.r (.two (.piece [(.nrm, ⟨[(10, vi)], [11, 12] ++ rg 55 22 ++ [81, 82], [], []⟩), (.ret, ⟨[(7, vi)], [11, 12] ++ rg 55 26, [(2, aM), (4, (.box (.frz aA)))], [0, 1]⟩)] .none) (.r (.r (.r (.l (.l (.piece [(.nrm, ⟨[(109, vb)], rg 103 6, [], []⟩)] .none))))))))))))) := eqn Tryz.f329
theorem du.eq : Eqn (Q [cJ.spec, ej.spec, cV.spec, eO.spec, fi.spec, eE.spec, aO.spec, fB.spec, de.spec, cy.spec, ay.spec, aN.spec, aq.spec, jd.spec, fy.spec]) du.spec (.r (.r (.two (.piece [(.nrm, ⟨[(8, vs)], [25, 26], [], []⟩)] .none) (.r (.r (.r (.l (.r (.l (.r (.r (.r (.r (.r (.r (.r (.r (.l (.piece [(.nrm, ⟨[(125, vb)], [126, 127], [], []⟩)] .none))))))))))))))))))) := eqn Tryz.f375
theorem iy.eq : Eqn (Q [cD.spec, eP.spec, fY.spec, bc.spec]) iy.spec (.r (.r (.r (.r (.l (.l (.loop ⟨[(3, (false, (.own .w))), (4, (false, (.own .y)))], [5, 6] ++ rg 12 34, [], [2]⟩ [(.ext 0, ⟨[(4, (false, (.own .y)))], [3, 5, 6] ++ rg 12 34, [], [2]⟩)] (.r (.l (.r (.l (.r (.l (.loop ⟨[(5, (false, (.frz (.int .u64)))), (6, vi)], rg 18 20, [(3, (.own .w))], []⟩ [(.ext 2, ⟨[(5, (false, (.frz (.int .u64))))], [6] ++ rg 18 20, [(3, (.own .w))], []⟩)] .none)))))))))))))) := eqn Tryz.f69
theorem parse_parser_calls.eq (G : bK) : Eqn (Q [ae.spec, parse_parser_arguments.spec G, parse_parser_head.spec G, parse_parser_member.spec G, bA.spec]) (parse_parser_calls.g.sp 376 fun x => R.parse_parser_calls G x) (.r (.l (.r (.r (.l (.l (.loop ⟨[], [4, 5] ++ rg 8 17, [(0, aF), (3, (.box (.frz (.rose aB))))], []⟩ [(.ext 0, ⟨[], [4, 5] ++ rg 8 17, [(0, aF), (3, (.box (.frz (.rose aB))))], []⟩)] .none))))))) := eqn Tryz.f376
theorem gQ.eq : Eqn (Q [jI.spec, eT.spec, gq.spec, cE.spec, cA.spec, cH.spec, az.spec, jG.spec, iO.spec]) gQ.spec (.r (.two (.r (.l (.r (.r (.r (.r (.r (.r (.l (.piece [(.nrm, ⟨[(34, vb)], [35, 36], [], []⟩)] .none)))))))))) (.r (.l (.l (.r (.r (.l (.piece [(.nrm, ⟨[(47, vb)], rg 48 7, [], []⟩)] .none))))))))) := eqn Tryz.f19
theorem dL.eq : Eqn (Q [bN.spec, cX.spec, dE.spec]) dL.spec (.r (.l (.r (.l (.loop ⟨[(1, vi), (16, vi)], rg 7 4 ++ rg 17 37, [], []⟩ [(.ext 0, ⟨[], [1] ++ rg 7 4 ++ rg 16 38, [], []⟩), (.ret, ⟨[(7, vi), (8, vb)], [1, 9, 10] ++ rg 16 38, [(2, (.box (.frz bG)))], []⟩)] .none))))) := eqn Tryz.f334
theorem parse_parser_body.eq (G : bK) : Eqn (Q [ae.spec, parse_parser_assign.spec G, aS.spec, aK.spec, bA.spec]) (parse_parser_body.g.sp 299 fun x => R.parse_parser_body G x.1 x.2) (.r (.l (.piece [(.nrm, ⟨[], [6, 7, 8], [], []⟩)] .none))) := eqn Tryz.f299
theorem dt.eq : Eqn (Q []) dt.spec (.r (.l (.r (.l (.loop ⟨[(8, vi)], [2, 3, 5] ++ rg 9 8, [], []⟩ [(.ext 0, ⟨[], [2, 3, 5] ++ rg 8 9, [], []⟩), (.ret, ⟨[(2, (false, (.frz (.int .i32)))), (3, vi)], [5] ++ rg 8 9, [], []⟩)] .none))))) := eqn Tryz.f177
theorem fY.eq : Eqn (Q []) fY.spec (.r (.l (.l (.loop ⟨[(0, (false, (.own .w)))], rg 3 17, [], [0]⟩ [(.ext 0, ⟨[(0, (false, (.own .w)))], rg 3 17, [], [0]⟩)] (.l (.l (.piece [(.nrm, ⟨[(14, vb)], rg 3 11, [], []⟩)] .none))))))) := eqn Tryz.f124
theorem bj.eq : Eqn (Q [eJ.spec, aK.spec, aI.spec]) bj.spec (.r (.l (.l (.piece [(.nrm, ⟨[(19, vb)], rg 5 14, [(0, aF)], []⟩)] .none)))) := eqn Tryz.f240
theorem eval_run_statement.eq (G : bJ) : Eqn (Q [eval_run_act.spec G, bo.spec]) (eval_run_statement.g.sp 196 fun x => R.eval_run_statement G x.1 x.2.1 x.2.2.1 x.2.2.2) .none := eqn Tryz.f196
theorem fL.eq : Eqn (Q [gZ.spec, eu.spec, gd.spec]) fL.spec (.r (.r (.l (.r (.l (.l (.piece [(.nrm, ⟨[(7, vb)], [8, 9], [], []⟩)] .none))))))) := eqn Tryz.f12
theorem dv.eq : Eqn (Q [ij.spec, cY.spec, av.spec]) dv.spec .none := eqn Tryz.f233
theorem dk.eq : Eqn (Q [cj.spec, eQ.spec, eC.spec]) dk.spec .none := eqn Tryz.f34
theorem b9.eq : Eqn (Q [b8.spec]) b9.spec .none := eqn Tryz.f415
theorem dV.eq : Eqn (Q [gF.spec, fF.spec]) dV.spec .none := eqn Tryz.f266
theorem fO.eq : Eqn (Q [cz.spec, dD.spec, fm.spec]) fO.spec .none := eqn Tryz.f59
theorem eR.eq : Eqn (Q [bl.spec]) eR.spec .none := eqn Tryz.f392
theorem gf.eq : Eqn (Q [ja.spec, jA.spec]) gf.spec .none := eqn Tryz.f96
theorem i6.eq : Eqn (Q [oW 123, cz.spec]) i6.spec .none := eqn Tryz.f68
theorem dN.eq : Eqn (Q [bS.spec]) dN.spec .none := eqn Tryz.f103
theorem eY.eq : Eqn (Q [fG.spec]) eY.spec .none := eqn Tryz.f97
theorem ak.eq : Eqn (Q []) ak.spec .none := eqn Tryz.f272
theorem az.eq : Eqn (Q []) az.spec .none := eqn Tryz.f51
theorem fm.eq : Eqn (Q []) fm.spec .none := eqn Tryz.f108
end Go.Mach
set_option linter.unusedVariables false
set_option maxRecDepth 100000
namespace Go.Mach
open Go.Proofs
theorem dC.eq : Eqn (Q [jC.spec]) dC.spec (.r (.r (.r (.r (.l (.l (.loop ⟨[], [3, 6, 7, 8] ++ rg 27 63, [(0, bY), (2, (.box (.seq .i (.seq .s (.seq (.own .h) (.seq (.frz aH) (.seq (.seq .b (.own .w)) (.seq .i .b))))))))], []⟩ [(.ext 0, ⟨[], [3, 6, 7, 8] ++ rg 27 63, [(0, bY)], [2]⟩), (.ret, ⟨[(3, vi)], [6, 7, 8] ++ rg 27 63, [(0, bY), (1, (.box (.seq .i (.seq .s (.seq (.own .h) (.seq (.frz aH) (.seq (.seq .b (.own .w)) (.seq .i .b))))))))], [2]⟩)] (.two (.l (.piece [(.nrm, ⟨[(50, vb)], rg 27 23, [], []⟩)] .none)) (.l (.r (.r (.r (.l (.piece [(.nrm, ⟨[], [72, 73], [], []⟩)] .none)))))))))))))) := eqn Tryz.f235
theorem gS.eq : Eqn (Q [gn 284 (.int .u8), gn 70 (.int .u16), nL 112 282 bR, nL 112 283 bG, dE.spec]) gS.spec (.r (.r (.two (.r (.l (.loop ⟨[(26, vi)], [3, 4] ++ rg 27 16, [(7, (.own (.frz bR)))], []⟩ [(.ext 0, ⟨[], [3, 4] ++ rg 26 17, [(7, (.own (.frz bR)))], []⟩)] .none))) (.l (.r (.l (.loop ⟨[(46, vi)], [5, 6] ++ rg 47 13, [(8, (.own (.frz bG)))], []⟩ [(.ext 2, ⟨[], [5, 6] ++ rg 46 14, [(8, (.own (.frz bG)))], []⟩)] .none))))))) := eqn Tryz.f245
theorem fI.eq : Eqn (Q [bh.spec, aq.spec, eo.spec]) fI.spec (.r (.r (.l (.r (.l (.loop ⟨[(3, vb), (8, vi)], [2, 5] ++ rg 9 28, [], []⟩ [(.ext 0, ⟨[(3, vb)], [2, 5] ++ rg 8 29, [], []⟩), (.ret, ⟨[(2, vb)], [3, 5] ++ rg 8 29, [], []⟩)] (.r (.r (.l (.l (.r (.two (.piece [(.nrm, ⟨[(3, vb)], rg 12 5, [], []⟩)] .none) (.l (.l (.piece [(.nrm, ⟨[(17, vb)], rg 18 14, [], []⟩)] (.r (.r (.l (.piece [(.nrm, ⟨[(17, vb)], rg 20 6, [], []⟩)] .none))))))))))))))))))) := eqn Tryz.f117
theorem parse_parser_level.eq (G : bK) : Eqn (Q [gU.spec, ak.spec, parse_parser_level.spec G, aK.spec, parse_parser_unary.spec G]) (parse_parser_level.g.sp 332 fun x => R.parse_parser_level G x.1 x.2) (.r (.r (.r (.l (.l (.loop ⟨[], [6] ++ rg 15 23, [(0, aF), (3, (.box (.frz (.rose aB))))], []⟩ [(.ext 0, ⟨[], [6] ++ rg 15 23, [(0, aF), (3, (.box (.frz (.rose aB))))], []⟩)] .none)))))) := eqn Tryz.f332
theorem dP.eq : Eqn (Q [gF.spec, fF.spec, bE.spec, dF.spec, dC.spec, dy.spec, dv.spec]) dP.spec (.r (.r (.l (.l (.r (.r (.r (.r (.two (.piece [(.nrm, ⟨[(29, vb)], rg 30 6, [], []⟩)] .none) (.r (.l (.piece [(.nrm, ⟨[(40, vb)], rg 41 6, [], []⟩)] .none)))))))))))) := eqn Tryz.f208
theorem jd.eq : Eqn (Q [eo.spec]) jd.spec (.r (.two (.l (.piece [(.nrm, ⟨[(25, vb)], rg 7 18, [], []⟩)] .none)) (.r (.l (.r (.l (.loop ⟨[(4, vi), (28, vi)], [2, 3, 6] ++ rg 29 13, [], []⟩ [(.ext 0, ⟨[(4, vi)], [2, 3, 6] ++ rg 28 14, [], []⟩), (.ret, ⟨[(2, vi), (3, vb)], [4, 6] ++ rg 28 14, [], []⟩)] .none))))))) := eqn Tryz.f361
theorem dF.eq : Eqn (Q [cY.spec, bn.spec, bQ.spec, dH.spec, aq.spec, eK.spec]) dF.spec (.r (.r (.r (.l (.l (.l (.piece [(.nrm, ⟨[(12, vb)], rg 13 7, [], []⟩)] .none))))))) := eqn Tryz.f234
theorem eval_run_call.eq (G : bJ) : Eqn (Q [gx.spec, fi.spec, eval_run_apply.spec G, eval_run_does.spec G, aE.spec, bl.spec]) (eval_run_call.g.sp 346 fun x => R.eval_run_call G x.1 x.2.1 x.2.2.1 x.2.2.2) .none := eqn Tryz.f346
theorem dK.eq : Eqn (Q [iV.spec, fx.spec, aO.spec, aE.spec, dL.spec]) dK.spec (.r (.r (.l (.l (.l (.piece [(.nrm, ⟨[(26, vb)], rg 27 6, [], []⟩)] .none)))))) := eqn Tryz.f320
theorem gz.eq : Eqn (Q [eA.spec, eM.spec, aa.spec]) gz.spec (.r (.l (.l (.piece [(.nrm, ⟨[(37, vb)], rg 8 29, [], []⟩)] .none)))) := eqn Tryz.f139
theorem dz.eq : Eqn (Q [bg.spec, ay.spec, aq.spec]) dz.spec (.r (.r (.l (.r (.l (.piece [(.nrm, ⟨[(33, vb)], rg 28 5, [], []⟩)] .none)))))) := eqn Tryz.f81
theorem aU.eq : Eqn (Q [aW.spec]) aU.spec .none := eqn Tryz.f119
theorem kn.eq : Eqn (Q [dU.spec, bS.spec]) kn.spec (.r (.l (.l (.piece [(.nrm, ⟨[(9, vb)], rg 4 5, [], []⟩)] .none)))) := eqn Tryz.f155
theorem cx.eq : Eqn (Q [aT.spec]) cx.spec .none := eqn Tryz.f248
theorem aE.eq : Eqn (Q [cZ.spec, bU.spec]) aE.spec .none := eqn Tryz.f335
theorem bn.eq : Eqn (Q [fF.spec]) bn.spec .none := eqn Tryz.f236
theorem jB.eq : Eqn (Q [cz.spec, dD.spec, fm.spec]) jB.spec .none := eqn Tryz.f164
theorem dW.eq : Eqn (Q [gp.spec]) dW.spec .none := eqn Tryz.f286
theorem eW.eq : Eqn (Q [gS.spec]) eW.spec .none := eqn Tryz.f214
theorem jD.eq : Eqn (Q [gn 109 (.int .u32)]) jD.spec .none := eqn Tryz.f61
theorem bM.eq : Eqn (Q []) bM.spec .none := eqn Tryz.f274
theorem er.eq : Eqn (Q []) er.spec .none := eqn Tryz.f133
theorem ee.eq : Eqn (Q []) ee.spec .none := eqn Tryz.f136
theorem jN.eq : Eqn (Q []) jN.spec .none := eqn Tryz.f229
theorem iR.eq : Eqn (Q []) iR.spec .none := eqn Tryz.f222
end Go.Mach
set_option linter.unusedVariables false
set_option maxRecDepth 100000
namespace Go.Mach
open Go.Proofs
theorem eM.eq : Eqn (Q [eV.spec, fX.spec, eA.spec]) eM.spec (.r (.r (.r (.l (.l (.two (.piece [(.nrm, ⟨[(17, vb)], rg 18 8, [], []⟩)] .none) (.two (.r (.l (.loop ⟨[(6, (false, (.own .s))), (29, vi)], [8, 9] ++ rg 30 27, [], []⟩ [(.ext 1, ⟨[(6, (false, (.own .s)))], [8, 9] ++ rg 29 28, [], []⟩)] .none))) (.two (.piece [(.nrm, ⟨[(57, vb)], rg 58 15, [], []⟩)] .none) (.r (.two (.piece [(.nrm, ⟨[(79, vb)], rg 80 8, [], []⟩)] .none) (.r (.r (.l (.r (.l (.loop ⟨[(6, (false, (.own .s))), (98, vi)], [11] ++ rg 99 20, [], []⟩ [(.ext 4, ⟨[(6, (false, (.own .s)))], [11] ++ rg 98 21, [], []⟩)] .none)))))))))))))))) := eqn Tryz.f138
theorem eval_run_unary.eq (G : bJ) : Eqn (Q [bo.spec, eval_run_expression.spec G, dK.spec, cI.spec, gQ.spec]) (eval_run_unary.g.sp 322 fun x => R.eval_run_unary G x.1 x.2.1 x.2.2.1 x.2.2.2) (.r (.r (.r (.r (.l (.piece [(.nrm, ⟨[(13, vi)], [14] ++ rg 37 14 ++ rg 52 22, [(2, aM), (5, (.box (.frz aA)))], [0, 1]⟩), (.ret, ⟨[(9, vi)], [14] ++ rg 37 15, [(2, aM), (4, (.box (.seq .i (.seq (.frz aH) (.seq (.seq .b (.own .w)) (.seq (.own .h) .i))))))], [0, 1]⟩)] .none)))))) := eqn Tryz.f322
theorem jn.eq : Eqn (Q [gM.spec, cz.spec, gE.spec, iP.spec, cu.spec, dD.spec, bu.spec, dU.spec, dN.spec, eI.spec, dZ.spec]) jn.spec (.r (.r (.r (.two (.l (.two (.piece [(.nrm, ⟨[(18, vb)], rg 19 22, [], []⟩)] .none) (.r (.two (.piece [(.nrm, ⟨[(42, vb)], rg 43 6, [], []⟩)] .none) (.r (.l (.piece [(.nrm, ⟨[(51, vb)], rg 52 6, [], []⟩)] .none))))))) (.r (.l (.l (.piece [(.nrm, ⟨[(75, vb)], rg 70 5, [], []⟩)] .none)))))))) := eqn Tryz.f88
theorem eval_run_operation.eq (G : bJ) : Eqn (Q [gq.spec, eval_run_arguments.spec G, eval_run_assign.spec G, eval_run_binary.spec G, eval_run_callee.spec G, eval_run_expression.spec G, eval_run_fresh.spec G, eval_run_property.spec G, eval_run_unary.spec G]) (eval_run_operation.g.sp 313 fun x => R.eval_run_operation G x.1 x.2.1 x.2.2.1 x.2.2.2) (.r (.r (.l (.r (.l (.r (.r (.l (.piece [(.nrm, ⟨[(33, vb)], [34, 35], [], []⟩)] .none))))))))) := eqn Tryz.f313
theorem eval_run_list.eq (G : bJ) : Eqn (Q [eval_run_statement.spec G]) (eval_run_list.g.sp 146 fun x => R.eval_run_list G x.1 x.2.1 x.2.2) (.r (.l (.r (.l (.loop ⟨[(12, vi)], [8, 9] ++ rg 13 12, [(2, aM)], [0, 1]⟩ [(.ext 0, ⟨[], [8, 9] ++ rg 12 13, [(2, aM)], [0, 1]⟩), (.ret, ⟨[], [8, 9] ++ rg 12 13, [(2, aM), (4, (.box (.frz cB)))], [0, 1]⟩)] .none))))) := eqn Tryz.f146
theorem jS.eq : Eqn (Q [gF.spec, fF.spec]) jS.spec (.r (.l (.r (.l (.loop ⟨[(7, vi)], [2, 3, 4] ++ rg 8 19, [], []⟩ [(.ext 0, ⟨[], [2, 3, 4] ++ rg 7 20, [], []⟩), (.ret, ⟨[(2, vb)], [3, 4] ++ rg 7 20, [], []⟩)] (.r (.r (.l (.l (.r (.r (.l (.piece [(.nrm, ⟨[(25, vb)], rg 14 11, [], []⟩)] .none))))))))))))) := eqn Tryz.f129
theorem dd.eq : Eqn (Q [eH.spec, gC.spec, fa.spec]) dd.spec (.r (.r (.r (.l (.r (.l (.loop ⟨[(14, vi)], [2, 3, 5] ++ rg 15 8, [], []⟩ [(.ext 0, ⟨[], [2, 3, 5] ++ rg 14 9, [], []⟩), (.ret, ⟨[(2, vi), (3, vi)], [5] ++ rg 14 9, [], []⟩)] .none))))))) := eqn Tryz.f43
theorem gN.eq : Eqn (Q []) gN.spec (.r (.r (.l (.r (.l (.loop ⟨[(4, vi), (9, vi)], [2, 3, 6] ++ rg 10 12, [], []⟩ [(.ext 0, ⟨[(4, vi)], [2, 3, 6] ++ rg 9 13, [], []⟩), (.ret, ⟨[(2, vi), (3, vb)], [4, 6] ++ rg 9 13, [], []⟩)] .none)))))) := eqn Tryz.f122
theorem iM.eq : Eqn (Q [gj.spec, cD.spec, eP.spec]) iM.spec (.r (.r (.l (.l (.two (.piece [(.nrm, ⟨[(11, vb)], rg 12 5, [], []⟩)] .none) (.r (.l (.piece [(.nrm, ⟨[(17, vb)], rg 18 5, [], []⟩)] .none)))))))) := eqn Tryz.f162
theorem eQ.eq : Eqn (Q []) eQ.spec (.r (.r (.l (.r (.l (.loop ⟨[(3, (false, (.own .h))), (4, vi)], rg 5 13, [], []⟩ [(.ext 0, ⟨[(3, (false, (.own .h)))], rg 4 14, [], []⟩)] .none)))))) := eqn Tryz.f31
theorem bL.eq : Eqn (Q [bN.spec, cX.spec, dE.spec]) bL.spec (.r (.l (.l (.piece [(.nrm, ⟨[(24, vb)], rg 14 10, [], []⟩)] .none)))) := eqn Tryz.f194
theorem aa.eq : Eqn (Q [af.spec]) aa.spec .none := eqn Tryz.f188
theorem cH.eq : Eqn (Q [eT.spec, bH.spec, cE.spec, cA.spec, jD.spec]) cH.spec .none := eqn Tryz.f54
theorem ba.eq : Eqn (Q [bV.spec, dz.spec, jY.spec]) ba.spec .none := eqn Tryz.f45
theorem ct.eq : Eqn (Q [bH.spec, cA.spec, iu.spec]) ct.spec .none := eqn Tryz.f366
theorem ah.eq : Eqn (Q [bU.spec, eW.spec]) ah.spec .none := eqn Tryz.f193
theorem cj.eq : Eqn (Q [fg.spec, fe.spec]) cj.spec .none := eqn Tryz.f33
theorem bo.eq : Eqn (Q [bU.spec]) bo.spec .none := eqn Tryz.f220
theorem aO.eq : Eqn (Q [bU.spec]) aO.spec .none := eqn Tryz.f310
theorem jv.eq : Eqn (Q [jF.spec, jI.spec]) jv.spec .none := eqn Tryz.f150
theorem eI.eq : Eqn (Q [bS.spec]) eI.spec .none := eqn Tryz.f160
theorem eV.eq : Eqn (Q []) eV.spec .none := eqn Tryz.f185
theorem fW.eq : Eqn (Q []) fW.spec .none := eqn Tryz.f255
theorem gF.eq : Eqn (Q []) gF.spec .none := eqn Tryz.f183
theorem dZ.eq : Eqn (Q []) dZ.spec .none := eqn Tryz.f159
end Go.Mach
