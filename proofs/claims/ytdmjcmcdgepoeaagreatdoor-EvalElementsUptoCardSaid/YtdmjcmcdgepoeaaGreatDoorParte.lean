/-
  Proved here: the law renlaw12.EvalElements returns true for every input of the stated bulk and leaves its arguments as they were; no further condition.
  By an AI agent; no person has read it.
-/
import Derived.Test.YtdmjcmcdgepoeaaGreatDoorPartd
import Derived.KernelRfl
import Derived.Test.YtdmjcmcdgepoeaaGreatDoorProg
set_option linter.all false
set_option linter.deprecated false
set_option linter.unusedVariables false
set_option maxRecDepth 100000
namespace Go.Mach
open Go.Proofs
theorem eB.eq : Eqn (Q [jS.spec, aS.spec, ah.spec, gO.spec, fl.spec, er.spec, fg.spec]) eB.spec (.r (.two (.l (.loop ⟨[(0, (false, (.bor (.own .h))))], rg 11 11, [], []⟩ [(.ext 0, ⟨[(0, (false, (.bor (.own .h))))], rg 11 11, [], []⟩)] (.l (.l (.piece [(.nrm, ⟨[(19, vb)], rg 11 8, [], []⟩)] .none))))) (.two (.l (.loop ⟨[(0, (false, (.bor (.own .h))))], rg 22 17, [], []⟩ [(.ext 2, ⟨[(0, (false, (.bor (.own .h))))], rg 22 17, [], []⟩)] (.l (.l (.piece [(.nrm, ⟨[(33, vb)], rg 22 11, [], []⟩)] .none))))) (.r (.r (.r (.two (.piece [(.nrm, ⟨[(5, (false, (.bor (.own .h))))], rg 49 9, [], []⟩)] (.l (.piece [(.nrm, ⟨[(55, vb)], rg 49 6, [], []⟩)] .none))) (.r (.l (.piece [(.nrm, ⟨[(8, vb)], [9, 10] ++ rg 62 21 ++ [84, 85], [(7, (.box (.frz aN)))], []⟩), (.ret, ⟨[(3, vb)], [9, 10] ++ rg 62 4 ++ rg 67 17, [(1, (.box (.frz aN)))], []⟩)] (.l (.r (.r (.l (.piece [(.nrm, ⟨[(67, vb)], rg 68 8, [], []⟩)] .none))))))))))))))) := eqn Tryz.f53
theorem eval_run_apply.eq (G : bU) : Eqn (Q [bn.spec, cb.spec, eval_run_expression.spec G, eval_run_list.spec G, cU.spec, bO.spec, ak.spec]) (eval_run_apply.g.sp 306 fun x => R.eval_run_apply G x.1 x.2.1 x.2.2.1 x.2.2.2) (.r (.r (.r (.r (.r (.two (.piece [(.nrm, ⟨[], rg 46 12, [(9, (.box (.frz ai)))], []⟩)] .none) (.r (.r (.two (.r (.l (.loop ⟨[(76, vi)], [17, 18] ++ rg 77 23, [(7, gT)], [6]⟩ [(.ext 1, ⟨[], [17, 18] ++ rg 76 24, [(7, gT)], [6]⟩)] .none))) (.r (.r (.r (.r (.l (.r (.l (.r (.r (.l (.piece [(.nrm, ⟨[(150, vb)], [151, 152], [], []⟩)] .none)))))))))))))))))))) := eqn Tryz.f306
theorem fK.eq : Eqn (Q [im.spec, iE.spec, gi.spec]) fK.spec (.r (.r (.r (.two (.l (.piece [(.nrm, ⟨[(36, vb)], rg 25 11, [], []⟩)] .none)) (.two (.r (.l (.loop ⟨[(40, vi)], [4, 8, 9, 10] ++ rg 41 23, [], []⟩ [(.ext 0, ⟨[], [4, 8, 9, 10] ++ rg 40 24, [], []⟩), (.ret, ⟨[(4, vb)], [8, 9, 10] ++ rg 40 24, [], []⟩)] (.r (.r (.l (.l (.r (.r (.l (.piece [(.nrm, ⟨[(10, vi)], rg 46 8, [], []⟩)] .none))))))))))) (.l (.l (.r (.r (.l (.piece [(.nrm, ⟨[(90, vb)], rg 91 9, [], []⟩)] .none))))))))))) := eqn Tryz.f40
theorem parse_parser_head.eq (G : bJ) : Eqn (Q [aX.spec, parse_parser_arguments.spec G, parse_parser_head.spec G, parse_parser_member.spec G, ay.spec, parse_parser_primary.spec G, aI.spec]) (parse_parser_head.g.sp 390 fun x => R.parse_parser_head G x) (.r (.r (.r (.l (.l (.loop ⟨[(4, vb)], rg 13 7, [(0, aF), (4, (.box (.frz (.rose aB))))], []⟩ [(.ext 0, ⟨[], [4] ++ rg 13 7, [(0, aF), (4, (.box (.frz (.rose aB))))], []⟩)] .none)))))) := eqn Tryz.f390
theorem eval_run_operation.eq (G : bU) : Eqn (Q [eval_run_arguments.spec G, eval_run_assign.spec G, eval_run_binary.spec G, eval_run_callee.spec G, eval_run_expression.spec G, eval_run_fresh.spec G, eval_run_property.spec G]) (eval_run_operation.g.sp 261 fun x => R.eval_run_operation G x.1 x.2.1 x.2.2.1 x.2.2.2) (.r (.r (.l (.r (.l (.r (.r (.l (.piece [(.nrm, ⟨[(33, vb)], [34, 35], [], []⟩)] .none))))))))) := eqn Tryz.f261
theorem eU.eq : Eqn (Q []) eU.spec (.r (.r (.l (.r (.l (.loop ⟨[(15, vi)], [4, 5, 7] ++ rg 16 29, [(2, (.own .i))], []⟩ [(.ext 0, ⟨[], [4, 5, 7] ++ rg 15 30, [(2, (.own .i))], []⟩)] (.r (.r (.l (.l (.r (.r (.r (.l (.loop ⟨[(31, vi)], [7] ++ rg 32 12, [(2, (.own .i))], []⟩ [(.ext 2, ⟨[], [7] ++ rg 31 13, [(2, (.own .i))], []⟩)] .none))))))))))))))) := eqn Tryz.f42
theorem cK.eq : Eqn (Q [aX.spec, parse_parser_item.spec (cd fuel), aJ.spec]) cK.spec (.r (.r (.l (.l (.loop ⟨[], rg 5 11, [(0, aF), (3, (.box ld))], [2]⟩ [(.ext 0, ⟨[], rg 5 11, [(0, aF), (3, (.box ld))], [2]⟩)] .none))))) := eqn Tryz.f140
theorem jo.eq : Eqn (Q [kj.spec, fh.spec, eu.spec, gM.spec, ff.spec]) jo.spec (.r (.r (.l (.l (.two (.piece [(.nrm, ⟨[(10, vb)], rg 11 21, [], []⟩)] .none) (.r (.r (.r (.r (.r (.l (.piece [(.nrm, ⟨[(41, vb)], rg 42 8, [], []⟩)] .none)))))))))))) := eqn Tryz.f320
theorem b9.eq : Eqn (Q []) b9.spec (.r (.two (.piece [(.nrm, ⟨[], [5, 6, 7], [], []⟩)] .none) (.r (.l (.r (.l (.loop ⟨[(3, vi), (4, vi)], rg 12 12, [], []⟩ [(.ext 0, ⟨[(3, vi)], [4] ++ rg 12 12, [], []⟩)] .none))))))) := eqn Tryz.f41
theorem dc.eq : Eqn (Q [cj.spec, bG.spec, bn.spec, eJ.spec, aq.spec, aQ.spec, ee.spec, aC.spec]) dc.spec .none := eqn Tryz.f339
theorem jP.eq : Eqn (Q []) jP.spec (.r (.r (.r (.l (.r (.l (.loop ⟨[(13, vi)], [6] ++ rg 14 29, [(1, (.own .w))], []⟩ [(.ext 0, ⟨[], [6] ++ rg 13 30, [(1, (.own .w))], []⟩)] .none))))))) := eqn Tryz.f121
theorem da.eq : Eqn (Q [gJ.spec]) da.spec (.r (.l (.r (.l (.r (.r (.r (.r (.r (.r (.l (.piece [(.nrm, ⟨[(24, vb)], [25, 26, 27], [], []⟩)] .none)))))))))))) := eqn Tryz.f21
theorem gL.eq : Eqn (Q [fh.spec, dQ.spec]) gL.spec (.r (.l (.r (.l (.piece [(.nrm, ⟨[(12, vb)], rg 5 7, [], []⟩)] .none))))) := eqn Tryz.f413
theorem fT.eq : Eqn (Q [cZ.spec, dD.spec, ei.spec, aO.spec]) fT.spec .none := eqn Tryz.f288
theorem cz.eq : Eqn (Q [au.spec]) cz.spec .none := eqn Tryz.f210
theorem fM.eq : Eqn (Q [dW.spec, bL.spec]) fM.spec .none := eqn Tryz.f382
theorem gn.eq : Eqn (Q [fM.spec, cx.spec]) gn.spec .none := eqn Tryz.f338
theorem cp.eq : Eqn (Q [aC.spec]) cp.spec .none := eqn Tryz.f290
theorem bw.eq : Eqn (Q []) bw.spec .none := eqn Tryz.f414
theorem bT.eq : Eqn (Q []) bT.spec .none := eqn Tryz.f9
theorem bV.eq : Eqn (Q []) bV.spec .none := eqn Tryz.f150
theorem ei.eq : Eqn (Q []) ei.spec .none := eqn Tryz.f313
theorem gM.eq : Eqn (Q []) gM.spec .none := eqn Tryz.f308
theorem jE.eq : Eqn (Q []) jE.spec .none := eqn Tryz.f66
end Go.Mach
set_option linter.unusedVariables false
set_option maxRecDepth 100000
namespace Go.Mach
open Go.Proofs
theorem cH.eq : Eqn (Q [aq.spec, cU.spec, bO.spec, ah.spec]) cH.spec (.r (.r (.r (.two (.piece [(.nrm, ⟨[(10, vb)], rg 29 8, [], []⟩)] .none) (.two (.piece [(.nrm, ⟨[], [11, 12] ++ rg 37 10 ++ rg 49 11, [(2, aM), (7, (.box (.seq .i (.seq .i (.seq (.own (.frz cR)) (.seq (.own (.frz bK)) (.seq .s (.seq .i (.seq .i (.seq (.seq .i (.seq (.frz aN) (.seq (.seq .b (.own .w)) (.seq (.own .h) .i)))) (.seq .i (.seq .i (.seq .i (.seq .i (.own .y)))))))))))))))], [0, 1]⟩), (.ret, ⟨[(7, vi)], [11, 12] ++ rg 37 12, [(2, aM), (4, (.box (.seq .i (.seq (.frz aN) (.seq (.seq .b (.own .w)) (.seq (.own .h) .i))))))], [0, 1]⟩)] .none) (.r (.two (.piece [(.nrm, ⟨[], rg 63 13, [(7, (.box kF))], [11, 12, 13, 14, 15]⟩)] (.l (.l (.piece [(.nrm, ⟨[(63, vb)], rg 64 5, [], []⟩)] .none)))) (.r (.l (.l (.piece [(.nrm, ⟨[(86, vb)], rg 82 4, [], []⟩)] .none))))))))))) := eqn Tryz.f148
theorem eval_run_decls.eq (G : bU) : Eqn (Q [eval_run_expression.spec G, dE.spec]) (eval_run_decls.g.sp 194 fun x => R.eval_run_decls G x.1 x.2.1 x.2.2) (.r (.l (.r (.l (.loop ⟨[(15, vi)], rg 8 5 ++ rg 16 42, [(2, aM)], [0, 1]⟩ [(.ext 0, ⟨[], rg 8 5 ++ rg 15 43, [(2, aM)], [0, 1]⟩), (.ret, ⟨[], rg 8 5 ++ rg 15 43, [(2, aM), (4, (.box (.frz bW)))], [0, 1]⟩)] (.r (.r (.l (.l (.r (.r (.r (.l (.piece [(.nrm, ⟨[], [11, 12] ++ rg 27 16 ++ [46], [(2, aM), (11, (.box (.frz aA)))], [5, 6]⟩), (.ret, ⟨[], [11, 12] ++ rg 27 19, [(2, aM), (4, (.box (.frz bW)))], [5, 6]⟩)] .none)))))))))))))) := eqn Tryz.f194
theorem parse_parser_assign.eq (G : bJ) : Eqn (Q [eA.spec, ae.spec, aa.spec, dA.spec, parse_parser_assign.spec G, parse_parser_body.spec G, parse_parser_cond.spec G, aJ.spec, ca.spec, jC.spec, eS.spec]) (parse_parser_assign.g.sp 215 fun x => R.parse_parser_assign G x) (.r (.two (.r (.l (.piece [(.nrm, ⟨[(21, vb)], rg 8 13, [], []⟩)] .none))) (.r (.r (.r (.l (.l (.piece [(.nrm, ⟨[(53, vb)], rg 45 8, [], []⟩)] .none)))))))) := eqn Tryz.f215
theorem ca.eq : Eqn (Q [ae.spec, bN.spec, ax.spec, aR.spec, aI.spec]) ca.spec (.r (.r (.r (.r (.l (.loop ⟨[(3, (false, (.own (.frz (.rose aB)))))], [2] ++ rg 9 16, [(0, aF)], []⟩ [(.ret, ⟨[(2, (false, (.own (.frz (.rose aB)))))], [3] ++ rg 9 16, [(0, aF)], []⟩)] (.l (.r (.l (.l (.piece [(.nrm, ⟨[(21, vb)], rg 15 6, [(0, aF)], []⟩)] .none))))))))))) := eqn Tryz.f219
theorem eval_run_called.eq (G : bU) : Eqn (Q [cE.spec, eval_run_expression.spec G, dI.spec, eval_run_parts.spec G]) (eval_run_called.g.sp 300 fun x => R.eval_run_called G x.1 x.2.1 x.2.2) (.r (.r (.two (.l (.piece [(.nrm, ⟨[(30, vb)], rg 23 7, [], []⟩)] .none)) (.r (.r (.l (.piece [(.nrm, ⟨[(14, vi)], rg 54 8, [(2, aM), (15, (.box (.frz aA)))], [11, 12]⟩)] .none))))))) := eqn Tryz.f300
theorem parse_parser_member.eq (G : bJ) : Eqn (Q [aX.spec, ae.spec, parse_parser_assign.spec G, aR.spec, aJ.spec, aI.spec]) (parse_parser_member.g.sp 392 fun x => R.parse_parser_member G x.1 x.2) (.r (.l (.l (.r (.l (.r (.l (.l (.piece [(.nrm, ⟨[(19, vb)], rg 12 7, [], []⟩)] .none))))))))) := eqn Tryz.f392
theorem cW.eq : Eqn (Q []) cW.spec (.r (.l (.r (.l (.loop ⟨[(8, vi)], [4, 5] ++ rg 9 34, [], []⟩ [(.ext 0, ⟨[], [4, 5] ++ rg 8 35, [], []⟩), (.ret, ⟨[(4, vb)], [5] ++ rg 8 35, [], []⟩)] (.r (.r (.l (.l (.r (.l (.piece [(.nrm, ⟨[(41, vb)], rg 11 30, [], []⟩)] .none)))))))))))) := eqn Tryz.f174
theorem fW.eq : Eqn (Q [gS.spec, eC.spec, gR.spec]) fW.spec (.r (.r (.two (.l (.piece [(.nrm, ⟨[(31, vb)], rg 19 12, [], []⟩)] .none)) (.l (.r (.l (.r (.r (.r (.r (.l (.piece [(.nrm, ⟨[(64, vb)], [65, 66], [], []⟩)] .none)))))))))))) := eqn Tryz.f57
theorem cI.eq : Eqn (Q []) cI.spec (.r (.r (.l (.r (.l (.loop ⟨[(13, vi)], [4, 5] ++ rg 14 12, [], []⟩ [(.ext 0, ⟨[], [4, 5] ++ rg 13 13, [], []⟩), (.ret, ⟨[(4, vb)], [5] ++ rg 13 13, [], []⟩)] .none)))))) := eqn Tryz.f125
theorem cc.eq : Eqn (Q []) cc.spec (.r (.l (.r (.l (.two (.piece [(.nrm, ⟨[(5, vb)], rg 6 4, [], []⟩)] .none) (.r (.l (.piece [(.nrm, ⟨[(10, vb)], rg 11 6, [], []⟩)] .none)))))))) := eqn Tryz.f241
theorem dV.eq : Eqn ({ P := Tryz.prog, specs := [], ety := lg Tryz.prog owned, inls := [wC 111 (mG.env Tryz.prog) Tryz.f111 .none] } : Env) dV.spec .none := eqn Tryz.f380
theorem eval_run_property.eq (G : bU) : Eqn (Q [dI.spec, eval_run_parts.spec G]) (eval_run_property.g.sp 281 fun x => R.eval_run_property G x.1 x.2.1 x.2.2) .none := eqn Tryz.f281
theorem kD.eq : Eqn (Q [dq.spec]) kD.spec (.r (.r (.l (.piece [(.nrm, ⟨[(3, (false, (.frz (.int .u64))))], rg 6 4, [], []⟩)] .none)))) := eqn Tryz.f45
theorem iO.eq : Eqn (Q [gL.spec]) iO.spec (.r (.l (.r (.l (.piece [(.nrm, ⟨[(13, vb)], rg 6 7, [], []⟩)] .none))))) := eqn Tryz.f377
theorem im.eq : Eqn (Q [dB.spec, ea.spec, eS.spec]) im.spec .none := eqn Tryz.f64
theorem ay.eq : Eqn (Q [eA.spec, aJ.spec]) ay.spec .none := eqn Tryz.f218
theorem cx.eq : Eqn (Q [cB.spec]) cx.spec .none := eqn Tryz.f381
theorem eJ.eq : Eqn (Q [cD.spec]) eJ.spec .none := eqn Tryz.f379
theorem gO.eq : Eqn (Q [cI.spec]) gO.spec .none := eqn Tryz.f84
theorem aJ.eq : Eqn (Q []) aJ.spec .none := eqn Tryz.f160
theorem dW.eq : Eqn (Q []) dW.spec .none := eqn Tryz.f385
theorem cS.eq : Eqn (Q []) cS.spec .none := eqn Tryz.f257
theorem eu.eq : Eqn (Q []) eu.spec .none := eqn Tryz.f350
theorem cZ.eq : Eqn (Q []) cZ.spec .none := eqn Tryz.f20
end Go.Mach
set_option linter.unusedVariables false
set_option maxRecDepth 100000
namespace Go.Mach
open Go.Proofs
theorem gf.eq : Eqn (Q [gG.spec, dq.spec, fE.spec]) gf.spec (.r (.two (.piece [(.nrm, ⟨[(4, vs), (5, vb)], rg 11 9, [], []⟩)] .none) (.two (.piece [(.nrm, ⟨[(4, vs)], [20, 21, 22], [], []⟩)] .none) (.two (.l (.piece [(.nrm, ⟨[(29, vb)], rg 23 6, [], []⟩)] .none)) (.r (.l (.r (.l (.loop ⟨[(6, (false, (.own .w))), (33, vi)], [3] ++ rg 7 4 ++ rg 34 38, [], []⟩ [(.ext 0, ⟨[(6, (false, (.own .w)))], [3] ++ rg 7 4 ++ rg 33 39, [], []⟩), (.ret, ⟨[(3, vi)], rg 6 5 ++ rg 33 39, [(0, (.box (.seq .b (.own .w))))], []⟩)] (.r (.r (.l (.l (.r (.r (.l (.r (.l (.loop ⟨[(8, (false, (.frz (.int .u64)))), (43, vi)], [9, 10] ++ rg 44 17, [(1, (.own .w))], []⟩ [(.ext 2, ⟨[(8, (false, (.frz (.int .u64))))], [9, 10] ++ rg 43 18, [(1, (.own .w))], []⟩)] .none))))))))))))))))))) := eqn Tryz.f74
theorem cb.eq : Eqn (Q [cH.spec, bO.spec]) cb.spec (.r (.l (.r (.l (.loop ⟨[(25, vi)], [7, 9, 10, 12, 13, 14] ++ rg 26 68, [(2, aM)], [0, 1]⟩ [(.ext 0, ⟨[], [7, 9, 10, 12, 13, 14] ++ rg 25 69, [(2, aM)], [0, 1]⟩), (.ret, ⟨[(7, vi)], [9, 10, 12, 13, 14] ++ rg 25 69, [(2, aM), (4, (.box (.frz aA)))], [0, 1]⟩)] (.r (.r (.l (.l (.r (.r (.r (.l (.two (.piece [(.nrm, ⟨[(39, vb)], [40, 41], [], []⟩)] .none) (.l (.r (.l (.loop ⟨[(45, vi)], [12] ++ rg 46 24, [(7, gT)], [6]⟩ [(.ext 3, ⟨[], [12] ++ rg 45 25, [(7, gT)], [6]⟩)] .none)))))))))))))))))) := eqn Tryz.f109
theorem dh.eq : Eqn (Q [bR.spec, cS.spec, bG.spec, bn.spec, dJ.spec, eK.spec, aC.spec, cQ.spec, ak.spec, gL.spec]) dh.spec (.r (.r (.r (.r (.r (.two (.piece [(.nrm, ⟨[(15, vb)], rg 92 6, [], []⟩)] .none) (.l (.l (.l (.piece [(.nrm, ⟨[(98, vb)], rg 99 26, [], []⟩)] (.two (.piece [(.nrm, ⟨[(98, vb)], rg 99 8, [], []⟩)] .none) (.r (.l (.piece [(.nrm, ⟨[(98, vb)], rg 107 11, [], []⟩)] .none)))))))))))))) := eqn Tryz.f375
theorem di.eq : Eqn (Q [il.spec, iY.spec, cW.spec]) di.spec (.r (.l (.r (.r (.l (.l (.loop ⟨[(5, vb)], [2, 3, 4] ++ rg 6 67, [(0, bc)], []⟩ [(.ext 0, ⟨[(5, vb)], [2, 3, 4] ++ rg 6 67, [(0, bc)], []⟩)] (.r (.l (.r (.l (.l (.two (.piece [(.nrm, ⟨[(30, vb)], rg 31 6, [], []⟩)] .none) (.two (.l (.piece [(.nrm, ⟨[(5, vb)], rg 37 5, [], []⟩)] .none)) (.l (.piece [(.nrm, ⟨[(49, vb)], rg 50 6, [], []⟩)] .none)))))))))))))))) := eqn Tryz.f157
theorem dA.eq : Eqn (Q [eA.spec, aa.spec, ay.spec]) dA.spec (.r (.r (.r (.l (.piece [(.nrm, ⟨[(3, vi)], [2] ++ rg 7 19, [], []⟩), (.ret, ⟨[(2, vb)], [3] ++ rg 7 19, [], []⟩)] (.r (.l (.l (.loop ⟨[(3, vi)], [2] ++ rg 12 14, [], []⟩ [(.ext 0, ⟨[(3, vi)], [2] ++ rg 12 14, [], []⟩), (.ret, ⟨[(2, vb)], [3] ++ rg 12 14, [], []⟩)] .none))))))))) := eqn Tryz.f245
theorem gZ.eq : Eqn (Q [di.spec, dK.spec]) gZ.spec (.r (.r (.r (.r (.l (.loop ⟨[(6, (false, (.own (.frz bZ))))], [2, 3, 4] ++ rg 7 4 ++ rg 17 41, [(0, (.box (.frz gv)))], []⟩ [(.ret, ⟨[(2, (false, (.own (.frz bZ)))), (3, vi), (4, vi)], rg 6 5 ++ rg 17 41, [], [0]⟩)] .none)))))) := eqn Tryz.f139
theorem aU.eq : Eqn (Q [db.spec]) aU.spec (.r (.l (.r (.l (.loop ⟨[(8, vi)], [4, 5] ++ rg 9 10, [], []⟩ [(.ext 0, ⟨[], [4, 5] ++ rg 8 11, [], []⟩), (.ret, ⟨[(4, vi)], [5] ++ rg 8 11, [], []⟩)] .none))))) := eqn Tryz.f189
theorem fm.eq : Eqn (Q []) fm.spec (.r (.l (.l (.loop ⟨[(0, (false, (.frz (.list (.int .u32)))))], rg 3 17, [], []⟩ [(.ext 0, ⟨[(0, (false, (.frz (.list (.int .u32)))))], rg 3 17, [], []⟩)] (.l (.l (.piece [(.nrm, ⟨[(14, vb)], rg 3 11, [], []⟩)] .none))))))) := eqn Tryz.f112
theorem fE.eq : Eqn (Q []) fE.spec (.r (.l (.l (.loop ⟨[(0, (false, (.own .w)))], rg 3 17, [], [0]⟩ [(.ext 0, ⟨[(0, (false, (.own .w)))], rg 3 17, [], [0]⟩)] (.l (.l (.piece [(.nrm, ⟨[(14, vb)], rg 3 11, [], []⟩)] .none))))))) := eqn Tryz.f112
theorem ah.eq : Eqn (Q []) ah.spec (.r (.r (.l (.r (.l (.loop ⟨[(3, (false, (.own .h))), (7, vi)], [4] ++ rg 8 10, [], []⟩ [(.ext 0, ⟨[(3, (false, (.own .h)))], [4] ++ rg 7 11, [], []⟩)] .none)))))) := eqn Tryz.f77
theorem iF.eq : Eqn (Q []) iF.spec (.r (.l (.r (.l (.two (.piece [(.nrm, ⟨[(4, vb)], rg 5 22, [], []⟩)] .none) (.r (.l (.piece [(.nrm, ⟨[(27, vb)], rg 28 27, [], []⟩)] .none)))))))) := eqn Tryz.f142
theorem dH.eq : Eqn (Q [dS.spec, jU.spec, bo.spec]) dH.spec (.r (.l (.r (.l (.piece [(.nrm, ⟨[(21, vb)], rg 15 6, [], []⟩)] .none))))) := eqn Tryz.f13
theorem eM.eq : Eqn (Q []) eM.spec (.r (.l (.r (.l (.r (.r (.l (.piece [(.nrm, ⟨[(7, vb)], [8, 9], [], []⟩)] .none)))))))) := eqn Tryz.f101
theorem gI.eq : Eqn (Q []) gI.spec (.r (.l (.r (.l (.r (.r (.l (.piece [(.nrm, ⟨[(15, vb)], rg 16 4, [], []⟩)] .none)))))))) := eqn Tryz.f36
theorem cT.eq : Eqn (Q [aU.spec]) cT.spec .none := eqn Tryz.f165
theorem eT.eq : Eqn (Q [gg 70 (.int .u32), gg 80 (.int .u16)]) eT.spec .none := eqn Tryz.f166
theorem ch.eq : Eqn (Q [bw.spec]) ch.spec .none := eqn Tryz.f372
theorem cE.eq : Eqn (Q [bY.spec]) cE.spec .none := eqn Tryz.f169
theorem gm.eq : Eqn (Q [(fR.spec fuel)]) gm.spec .none := eqn Tryz.f141
theorem db.eq : Eqn (Q []) db.spec .none := eqn Tryz.f190
theorem ig.eq : Eqn (Q [gC.spec]) ig.spec .none := eqn Tryz.f117
theorem fi.eq : Eqn (Q []) fi.spec .none := eqn Tryz.f113
theorem iQ.eq : Eqn (Q []) iQ.spec .none := eqn Tryz.f400
theorem ff.eq : Eqn (Q []) ff.spec .none := eqn Tryz.f151
end Go.Mach
set_option linter.unusedVariables false
set_option maxRecDepth 100000
namespace Go.Mach
open Go.Proofs
theorem fC.eq : Eqn (Q []) fC.spec (.r (.r (.l (.r (.l (.loop ⟨[(3, (false, (.own .i))), (10, vi)], [2, 4, 5, 6] ++ rg 11 59, [], []⟩ [(.ext 0, ⟨[(3, (false, (.own .i)))], [2, 4, 5, 6] ++ rg 10 60, [], []⟩), (.ret, ⟨[(2, vb)], rg 3 4 ++ rg 10 60, [], []⟩)] (.r (.r (.l (.l (.r (.two (.piece [(.nrm, ⟨[(3, (false, (.own .i)))], rg 15 20, [], [2]⟩), (.ret, ⟨[(2, vb)], rg 15 15, [], []⟩)] (.r (.l (.l (.l (.piece [(.nrm, ⟨[(29, vb)], rg 17 12, [], []⟩)] .none)))))) (.r (.l (.loop ⟨[(3, (false, (.own .i))), (6, vi)], [2] ++ rg 39 30, [], [5]⟩ [(.ext 2, ⟨[(3, (false, (.own .i)))], [2, 6] ++ rg 39 30, [], [5]⟩), (.ret, ⟨[(2, vb)], [3, 6] ++ rg 39 30, [], [5]⟩)] (.r (.l (.l (.l (.l (.piece [(.nrm, ⟨[(60, vb)], rg 43 17, [], []⟩)] .none))))))))))))))))))))) := eqn Tryz.f38
theorem cn.eq : Eqn (Q [dW.spec, eI.spec, ei.spec]) cn.spec (.r (.r (.two (.r (.l (.loop ⟨[(1, (false, (.own .s))), (13, vi)], [3, 5] ++ rg 14 19, [], [0]⟩ [(.ext 0, ⟨[(1, (false, (.own .s)))], [3, 5] ++ rg 13 20, [], [0]⟩)] (.r (.r (.l (.l (.r (.r (.l (.loop ⟨[(1, (false, (.own .s))), (20, vi)], [5] ++ rg 21 11, [], [4]⟩ [(.ext 2, ⟨[(1, (false, (.own .s)))], [5] ++ rg 20 12, [], [4]⟩)] .none))))))))))) (.r (.l (.r (.l (.loop ⟨[(1, (false, (.own .s))), (38, vi)], [7] ++ rg 39 11, [], [6]⟩ [(.ext 4, ⟨[(1, (false, (.own .s)))], [7] ++ rg 38 12, [], [6]⟩)] .none)))))))) := eqn Tryz.f340
theorem eval_run_assign.eq (G : bU) : Eqn (Q [eval_run_expression.spec G, eE.spec, eval_run_parts.spec G, aC.spec, eg.spec]) (eval_run_assign.g.sp 277 fun x => R.eval_run_assign G x.1 x.2.1 x.2.2) (.r (.r (.r (.r (.r (.two (.piece [(.nrm, ⟨[], [39, 40], [], []⟩)] .none) (.r (.l (.piece [(.nrm, ⟨[], [13, 14] ++ rg 66 11 ++ [82], [(11, (.box (.frz aA)))], []⟩), (.ret, ⟨[(7, vi)], [13, 14] ++ rg 66 16, [(2, aM), (5, (.box (.frz aA)))], [14, 15]⟩)] .none))))))))) := eqn Tryz.f277
theorem parse_parser_word.eq (G : bJ) : Eqn (Q [aX.spec, parse_parser_assign.spec G, bg.spec, aJ.spec, parse_parser_simple.spec G]) (parse_parser_word.g.sp 222 fun x => R.parse_parser_word G x.1 x.2) (.r (.l (.r (.l (.r (.r (.r (.r (.r (.r (.r (.r (.r (.r (.r (.r (.r (.two (.r (.l (.piece [(.nrm, ⟨[], [93, 94, 95], [], []⟩)] .none))) (.r (.r (.l (.piece [(.nrm, ⟨[(109, vb)], [110, 111, 112], [], []⟩)] .none)))))))))))))))))))))) := eqn Tryz.f222
theorem jq.eq : Eqn (Q [fh.spec, iQ.spec, ic.spec, eu.spec, gM.spec, du.spec, ff.spec, eh.spec, gE.spec]) jq.spec (.r (.r (.r (.l (.l (.two (.piece [(.nrm, ⟨[(16, vb)], rg 17 22, [], []⟩)] .none) (.r (.two (.piece [(.nrm, ⟨[(40, vb)], rg 41 6, [], []⟩)] .none) (.r (.l (.piece [(.nrm, ⟨[(49, vb)], rg 50 6, [], []⟩)] .none))))))))))) := eqn Tryz.f357
theorem iV.eq : Eqn (Q [fk.spec]) iV.spec (.r (.r (.r (.l (.r (.l (.loop ⟨[(5, (false, (.own .w))), (6, (false, .w)), (14, vi)], rg 7 5 ++ rg 15 25, [], []⟩ [(.ext 0, ⟨[(5, (false, (.own .w)))], rg 6 6 ++ rg 14 26, [], []⟩)] (.r (.r (.l (.l (.r (.r (.l (.piece [(.nrm, ⟨[(9, (false, .w))], rg 19 8, [], []⟩)] .none))))))))))))))) := eqn Tryz.f122
theorem al.eq : Eqn (Q [bB.spec]) al.spec (.r (.r (.l (.l (.loop ⟨[(5, (false, (.own .y)))], rg 6 24, [(0, bc)], []⟩ [(.ext 0, ⟨[(5, (false, (.own .y)))], rg 6 24, [(0, bc)], []⟩)] .none))))) := eqn Tryz.f207
theorem bS.eq : Eqn (Q [bD.spec]) bS.spec (.r (.r (.l (.l (.loop ⟨[(5, (false, (.own .y)))], rg 6 24, [(0, bc)], []⟩ [(.ext 0, ⟨[(5, (false, (.own .y)))], rg 6 24, [(0, bc)], []⟩)] .none))))) := eqn Tryz.f207
theorem eP.eq : Eqn (Q [iA.spec, fT.spec, aQ.spec, aC.spec, dF.spec]) eP.spec (.r (.r (.l (.l (.l (.piece [(.nrm, ⟨[(26, vb)], rg 27 6, [], []⟩)] .none)))))) := eqn Tryz.f271
theorem bg.eq : Eqn (Q [eA.spec, aJ.spec, aI.spec]) bg.spec (.r (.l (.l (.piece [(.nrm, ⟨[(19, vb)], rg 5 14, [(0, aF)], []⟩)] .none)))) := eqn Tryz.f183
theorem iW.eq : Eqn (Q []) iW.spec (.r (.l (.r (.l (.two (.piece [(.nrm, ⟨[(4, vb)], rg 5 50, [], []⟩)] .none) (.r (.l (.piece [(.nrm, ⟨[(55, vb)], rg 56 7, [], []⟩)] .none)))))))) := eqn Tryz.f212
theorem fB.eq : Eqn (Q [gC.spec, ef.spec, gI.spec]) fB.spec (.r (.r (.l (.r (.l (.l (.piece [(.nrm, ⟨[(7, vb)], [8, 9], [], []⟩)] .none))))))) := eqn Tryz.f10
theorem cG.eq : Eqn (Q [cq.spec, bR.spec, cV.spec, cX.spec, aw.spec]) cG.spec .none := eqn Tryz.f394
theorem au.eq : Eqn (Q [cc.spec]) au.spec .none := eqn Tryz.f179
theorem fN.eq : Eqn (Q [dS.spec, fx.spec, ga.spec]) fN.spec .none := eqn Tryz.f60
theorem dO.eq : Eqn (Q [fZ.spec, eo.spec]) dO.spec .none := eqn Tryz.f208
theorem cf.eq : Eqn (Q [fN.spec, dH.spec]) cf.spec .none := eqn Tryz.f33
theorem cU.eq : Eqn (Q [aq.spec]) cU.spec .none := eqn Tryz.f108
theorem iZ.eq : Eqn (Q [qP 119, fh.spec]) iZ.spec .none := eqn Tryz.f78
theorem bx.eq : Eqn (Q [fB.spec]) bx.spec .none := eqn Tryz.f44
theorem cy.eq : Eqn (Q []) cy.spec .none := eqn Tryz.f432
theorem ez.eq : Eqn (Q []) ez.spec .none := eqn Tryz.f114
theorem hJ.eq : Eqn (Q []) hJ.spec .none := eqn Tryz.f341
theorem ic.eq : Eqn (Q []) ic.spec .none := eqn Tryz.f127
end Go.Mach
