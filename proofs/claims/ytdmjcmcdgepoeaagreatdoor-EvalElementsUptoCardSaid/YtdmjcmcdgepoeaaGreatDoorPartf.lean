/-
  Proved here: the law renlaw12.EvalElements returns true for every input of the stated bulk and leaves its arguments as they were; no further condition.
  By an AI agent; no person has read it.
-/
import Derived.Test.YtdmjcmcdgepoeaaGreatDoorParte
import Derived.KernelRfl
import Derived.Test.YtdmjcmcdgepoeaaGreatDoorProg
set_option linter.all false
set_option linter.deprecated false
set_option linter.unusedVariables false
set_option maxRecDepth 100000
namespace Go.Mach
open Go.Proofs
theorem eval_run_host.eq (G : bU) : Eqn (Q [bR.spec, cg.spec, bu.spec, cM.spec, aQ.spec, aC.spec, ak.spec]) (eval_run_host.g.sp 376 fun x => R.eval_run_host G x.1 x.2.1 x.2.2) (.r (.r (.two (.piece [(.nrm, ⟨[], rg 9 4 ++ rg 17 7 ++ rg 28 23 ++ rg 55 7 ++ rg 67 9 ++ rg 81 7, [(5, (.box (.frz dC)))], []⟩), (.ret, ⟨[(7, vi)], rg 9 6 ++ [17] ++ rg 19 9 ++ rg 31 24 ++ [60, 61] ++ rg 67 14 ++ [83, 84] ++ rg 86 14, [(2, aM), (4, (.box (.frz aA)))], [0, 1]⟩)] (.r (.l (.r (.r (.r (.l (.r (.l (.l (.piece [(.nrm, ⟨[(50, vb)], rg 43 7, [], []⟩)] .none))))))))))) (.r (.l (.l (.r (.r (.r (.r (.l (.piece [(.nrm, ⟨[(123, vb)], rg 124 8, [], []⟩)] .none)))))))))))) := eqn Tryz.f376
theorem cC.eq : Eqn ({ P := Tryz.prog, specs := [cq.spec, cZ.spec, bR.spec, cV.spec, cX.spec, aw.spec, bG.spec, dY.spec, da.spec, dH.spec, fB.spec, cr.spec, cJ.spec, bT.spec, fV.spec], ety := lg Tryz.prog ([(33, (.seq .i (.seq .s (.seq (.frz (.list (.int .u16))) (.seq (.frz aN) (.seq (.frz bl) (.own .i)))))))] ++ owned) } : Env) cC.spec (.r (.r (.r (.l (.l (.piece [(.nrm, ⟨[(34, vb)], rg 23 11, [], []⟩)] .none)))))) := eqn Tryz.f3
theorem fp.eq : Eqn (Q [eA.spec]) fp.spec (.r (.two (.l (.piece [(.nrm, ⟨[(10, vb)], rg 3 7, [], []⟩)] .none)) (.l (.r (.l (.r (.r (.r (.r (.r (.r (.two (.piece [(.nrm, ⟨[(19, vb)], rg 20 4, [], []⟩)] .none) (.r (.two (.piece [(.nrm, ⟨[(24, vb)], rg 25 5, [], []⟩)] .none) (.r (.two (.piece [(.nrm, ⟨[(30, vb)], [31, 32, 33], [], []⟩)] .none) (.r (.two (.piece [(.nrm, ⟨[(34, vb)], [35, 36], [], []⟩)] .none) (.r (.l (.piece [(.nrm, ⟨[(37, vb)], [38, 39, 40], [], []⟩)] .none))))))))))))))))))))) := eqn Tryz.f311
theorem parse_parser_calls.eq (G : bJ) : Eqn (Q [aX.spec, parse_parser_arguments.spec G, parse_parser_head.spec G, parse_parser_member.spec G, ay.spec]) (parse_parser_calls.g.sp 344 fun x => R.parse_parser_calls G x) (.r (.l (.r (.r (.l (.l (.loop ⟨[], [4, 5] ++ rg 8 17, [(0, aF), (3, (.box (.frz (.rose aB))))], []⟩ [(.ext 0, ⟨[], [4, 5] ++ rg 8 17, [(0, aF), (3, (.box (.frz (.rose aB))))], []⟩)] .none))))))) := eqn Tryz.f344
theorem ep.eq : Eqn (Q [ez.spec]) ep.spec (.r (.r (.l (.r (.l (.loop ⟨[(3, vb), (8, vi)], [2, 5] ++ rg 9 44, [], []⟩ [(.ext 0, ⟨[(3, vb)], [2, 5] ++ rg 8 45, [], []⟩), (.ret, ⟨[(2, vb)], [3, 5] ++ rg 8 45, [], []⟩)] (.r (.r (.l (.l (.r (.two (.piece [(.nrm, ⟨[(3, vb)], rg 12 5, [], []⟩)] .none) (.l (.piece [(.nrm, ⟨[(51, vb)], rg 17 34, [], []⟩)] .none)))))))))))))) := eqn Tryz.f76
theorem dL.eq : Eqn (Q [cg.spec, bu.spec, aq.spec, aC.spec]) dL.spec (.r (.r (.l (.piece [(.nrm, ⟨[], [9, 10] ++ rg 12 10 ++ [27, 28], [(5, (.box (.frz aA)))], []⟩), (.ret, ⟨[(7, vi)], [9, 10] ++ rg 12 15, [(2, aM), (4, (.box (.frz aA)))], [0, 1]⟩)] .none)))) := eqn Tryz.f371
theorem parse_parser_body.eq (G : bJ) : Eqn (Q [aX.spec, parse_parser_assign.spec G, aR.spec, aJ.spec, ay.spec]) (parse_parser_body.g.sp 244 fun x => R.parse_parser_body G x.1 x.2) (.r (.l (.piece [(.nrm, ⟨[], [6, 7, 8], [], []⟩)] .none))) := eqn Tryz.f244
theorem dk.eq : Eqn (Q []) dk.spec (.r (.l (.r (.l (.loop ⟨[(8, vi)], [2, 3, 5] ++ rg 9 8, [], []⟩ [(.ext 0, ⟨[], [2, 3, 5] ++ rg 8 9, [], []⟩), (.ret, ⟨[(2, (false, (.frz (.int .i32)))), (3, vi)], [5] ++ rg 8 9, [], []⟩)] .none))))) := eqn Tryz.f138
theorem cA.eq : Eqn (Q []) cA.spec (.r (.l (.r (.l (.loop ⟨[(8, vi)], [4, 5] ++ rg 9 10, [], []⟩ [(.ext 0, ⟨[], [4, 5] ++ rg 8 11, [], []⟩), (.ret, ⟨[(4, vi)], [5] ++ rg 8 11, [], []⟩)] .none))))) := eqn Tryz.f154
theorem gS.eq : Eqn (Q [dv.spec, eC.spec, aV.spec]) gS.spec (.r (.l (.l (.piece [(.nrm, ⟨[(37, vb)], rg 8 29, [], []⟩)] .none)))) := eqn Tryz.f92
theorem eval_run_statement.eq (G : bU) : Eqn (Q [eval_run_act.spec G, cE.spec]) (eval_run_statement.g.sp 149 fun x => R.eval_run_statement G x.1 x.2.1 x.2.2.1 x.2.2.2) .none := eqn Tryz.f149
theorem aV.eq : Eqn (Q [aW.spec]) aV.spec .none := eqn Tryz.f133
theorem fQ.eq : Eqn (Q [cn.spec]) fQ.spec (.r (.r (.l (.l (.piece [(.nrm, ⟨[(13, vb)], rg 5 8, [], []⟩)] .none))))) := eqn Tryz.f303
theorem iA.eq : Eqn (Q []) iA.spec (.r (.l (.r (.l (.l (.piece [(.nrm, ⟨[(4, vb)], rg 5 33, [], []⟩)] .none)))))) := eqn Tryz.f289
theorem dD.eq : Eqn (Q [cn.spec, bL.spec]) dD.spec .none := eqn Tryz.f314
theorem bj.eq : Eqn (Q [eo.spec]) bj.spec .none := eqn Tryz.f179
theorem aR.eq : Eqn (Q [aI.spec]) aR.spec .none := eqn Tryz.f213
theorem ak.eq : Eqn (Q [bV.spec]) ak.spec .none := eqn Tryz.f111
theorem eR.eq : Eqn (Q [eV.spec]) eR.spec .none := eqn Tryz.f86
theorem dB.eq : Eqn (Q []) dB.spec .none := eqn Tryz.f106
theorem eI.eq : Eqn (Q []) eI.spec .none := eqn Tryz.f384
theorem fk.eq : Eqn (Q []) fk.spec .none := eqn Tryz.f153
theorem gl.eq : Eqn (Q []) gl.spec .none := eqn Tryz.f123
theorem gC.eq : Eqn (Q []) gC.spec .none := eqn Tryz.f37
end Go.Mach
set_option linter.unusedVariables false
set_option maxRecDepth 100000
namespace Go.Mach
open Go.Proofs
theorem parse_parser_either.eq (G : bJ) : Eqn (Q [ae.spec, parse_parser_both.spec G, parse_parser_level.spec G, ay.spec, aI.spec]) (parse_parser_either.g.sp 269 fun x => R.parse_parser_either G x) (.r (.r (.two (.r (.l (.two (.l (.loop ⟨[], rg 8 7, [(0, aF), (3, (.box (.frz (.rose aB))))], []⟩ [(.ext 0, ⟨[], rg 8 7, [(0, aF), (3, (.box (.frz (.rose aB))))], []⟩)] .none)) (.l (.piece [(.nrm, ⟨[], rg 15 6, [], []⟩)] (.l (.piece [(.nrm, ⟨[(20, vb)], rg 15 5, [], []⟩)] .none))))))) (.r (.l (.l (.loop ⟨[], rg 27 9, [(0, aF), (3, (.box (.frz (.rose aB))))], []⟩ [(.ext 2, ⟨[], rg 27 9, [(0, aF), (3, (.box (.frz (.rose aB))))], []⟩)] .none))))))) := eqn Tryz.f269
theorem dd.eq : Eqn (Q [iW.spec, cW.spec, bD.spec, dx.spec]) dd.spec (.r (.r (.two (.l (.loop ⟨[(4, vi)], [3, 5, 6] ++ rg 19 52, [], []⟩ [(.ext 0, ⟨[], rg 3 4 ++ rg 19 52, [], []⟩), (.ret, ⟨[(3, vi)], [4, 5, 6] ++ rg 19 52, [(0, bc), (1, (.box (.seq .i (.seq .s (.seq (.own .h) (.seq (.frz aN) (.seq (.seq .b (.own .w)) (.seq .i .b))))))))], []⟩)] (.r (.l (.l (.r (.l (.l (.piece [(.nrm, ⟨[(56, vb)], rg 42 14, [], []⟩)] .none))))))))) (.r (.l (.l (.piece [(.nrm, ⟨[(101, vb)], rg 81 20, [], []⟩)] .none))))))) := eqn Tryz.f180
theorem eval_run_act.eq (G : bU) : Eqn (Q [gg 200 .str, eval_run_decls.spec G, eval_run_expression.spec G, eval_run_statement.spec G, fH.spec]) (eval_run_act.g.sp 170 fun x => R.eval_run_act G x.1 x.2.1 x.2.2.1 x.2.2.2) (.r (.r (.r (.l (.r (.l (.r (.r (.r (.r (.two (.piece [(.nrm, ⟨[(52, vb)], [53, 54], [], []⟩)] .none) (.r (.r (.r (.r (.r (.r (.r (.r (.r (.r (.r (.r (.r (.r (.r (.r (.r (.r (.l (.r (.l (.l (.piece [(.nrm, ⟨[(150, vb)], rg 141 9, [], []⟩)] .none)))))))))))))))))))))))))))))))))) := eqn Tryz.f170
theorem parse_parser_level.eq (G : bJ) : Eqn (Q [fp.spec, ae.spec, parse_parser_level.spec G, aJ.spec, parse_parser_unary.spec G]) (parse_parser_level.g.sp 284 fun x => R.parse_parser_level G x.1 x.2) (.r (.r (.r (.l (.l (.loop ⟨[], [6] ++ rg 15 23, [(0, aF), (3, (.box (.frz (.rose aB))))], []⟩ [(.ext 0, ⟨[], [6] ++ rg 15 23, [(0, aF), (3, (.box (.frz (.rose aB))))], []⟩)] .none)))))) := eqn Tryz.f284
theorem eL.eq : Eqn (Q [iA.spec, fT.spec, aQ.spec, aC.spec, dE.spec, dF.spec]) eL.spec (.r (.r (.two (.l (.two (.piece [(.nrm, ⟨[(27, vb)], rg 28 6, [], []⟩)] .none) (.r (.l (.piece [(.nrm, ⟨[(38, vb)], rg 39 5, [], []⟩)] .none))))) (.l (.r (.l (.piece [(.nrm, ⟨[(68, vb)], rg 64 4, [], []⟩)] .none))))))) := eqn Tryz.f321
theorem dF.eq : Eqn (Q [bV.spec, cT.spec, eT.spec]) dF.spec (.r (.l (.r (.l (.loop ⟨[(1, vi), (16, vi)], rg 7 4 ++ rg 17 37, [], []⟩ [(.ext 0, ⟨[], [1] ++ rg 7 4 ++ rg 16 38, [], []⟩), (.ret, ⟨[(7, vi), (8, vb)], [1, 9, 10] ++ rg 16 38, [(2, (.box (.frz bK)))], []⟩)] .none))))) := eqn Tryz.f286
theorem cu.eq : Eqn (Q [cW.spec, bj.spec, bS.spec, cz.spec, ah.spec, eB.spec]) cu.spec (.r (.r (.r (.l (.l (.l (.piece [(.nrm, ⟨[(12, vb)], rg 13 7, [], []⟩)] .none))))))) := eqn Tryz.f177
theorem iG.eq : Eqn (Q [fU.spec]) iG.spec (.r (.r (.r (.l (.r (.l (.loop ⟨[(5, (false, (.frz (.int .u64)))), (16, vi)], [6, 7] ++ rg 17 12, [], []⟩ [(.ext 0, ⟨[(5, (false, (.frz (.int .u64))))], [6, 7] ++ rg 16 13, [], []⟩)] .none))))))) := eqn Tryz.f52
theorem bL.eq : Eqn (Q []) bL.spec (.r (.l (.r (.l (.loop ⟨[(8, vi)], [4, 5] ++ rg 9 10, [], []⟩ [(.ext 0, ⟨[], [4, 5] ++ rg 8 11, [], []⟩), (.ret, ⟨[(4, vi)], [5] ++ rg 8 11, [], []⟩)] .none))))) := eqn Tryz.f145
theorem eH.eq : Eqn (Q []) eH.spec (.r (.r (.l (.r (.l (.loop ⟨[(3, (false, (.own .h))), (4, vi)], rg 5 13, [], []⟩ [(.ext 0, ⟨[(3, (false, (.own .h)))], rg 4 14, [], []⟩)] .none)))))) := eqn Tryz.f50
theorem dN.eq : Eqn (Q [bu.spec, ak.spec, ah.spec]) dN.spec (.r (.r (.l (.r (.l (.piece [(.nrm, ⟨[(33, vb)], rg 28 5, [], []⟩)] .none)))))) := eqn Tryz.f68
theorem eN.eq : Eqn (Q [gd.spec, cM.spec, cy.spec, ak.spec, de.spec]) eN.spec .none := eqn Tryz.f395
theorem bI.eq : Eqn (Q [cb.spec, eval_run_list.spec (bH fuel), cU.spec]) bI.spec .none := eqn Tryz.f67
theorem bB.eq : Eqn (Q [dO.spec]) bB.spec .none := eqn Tryz.f179
theorem b8.eq : Eqn (Q [bw.spec]) b8.spec .none := eqn Tryz.f418
theorem aq.eq : Eqn (Q [bY.spec, eQ.spec]) aq.spec .none := eqn Tryz.f146
theorem ax.eq : Eqn (Q [aJ.spec]) ax.spec .none := eqn Tryz.f185
theorem cD.eq : Eqn (Q [bV.spec]) cD.spec .none := eqn Tryz.f305
theorem cg.eq : Eqn (Q [gg 80 (.int .u16)]) cg.spec .none := eqn Tryz.f255
theorem dq.eq : Eqn (Q [fm.spec]) dq.spec .none := eqn Tryz.f69
theorem du.eq : Eqn (Q []) du.spec .none := eqn Tryz.f401
theorem fl.eq : Eqn (Q []) fl.spec .none := eqn Tryz.f82
theorem ef.eq : Eqn (Q []) ef.spec .none := eqn Tryz.f35
end Go.Mach
set_option linter.unusedVariables false
set_option maxRecDepth 100000
namespace Go.Mach
open Go.Proofs
theorem gi.eq : Eqn (Q [fD.spec]) gi.spec (.r (.l (.r (.l (.two (.piece [(.nrm, ⟨[(7, vb)], [8, 9], [], []⟩)] .none) (.r (.two (.piece [(.nrm, ⟨[(10, vb)], rg 11 5, [], []⟩)] .none) (.r (.two (.piece [(.nrm, ⟨[(17, vb)], [18, 19], [], []⟩)] .none) (.r (.two (.piece [(.nrm, ⟨[(21, vb)], [22, 23], [], []⟩)] .none) (.r (.r (.r (.r (.r (.r (.r (.r (.r (.r (.r (.r (.r (.two (.piece [(.nrm, ⟨[(50, vb)], [51, 52], [], []⟩)] .none) (.r (.r (.r (.r (.r (.r (.r (.two (.piece [(.nrm, ⟨[(63, vb)], [64, 65], [], []⟩)] .none) (.r (.two (.piece [(.nrm, ⟨[(67, vb)], [68, 69, 70], [], []⟩)] .none) (.r (.r (.r (.r (.r (.l (.piece [(.nrm, ⟨[(78, vb)], [79, 80], [], []⟩)] .none)))))))))))))))))))))))))))))))))))))))))) := eqn Tryz.f62
theorem parse_parser_primary.eq (G : bJ) : Eqn (Q [aX.spec, ae.spec, parse_parser_assign.spec G, parse_parser_list.spec G, ax.spec, aR.spec, aJ.spec, ay.spec]) (parse_parser_primary.g.sp 428 fun x => R.parse_parser_primary G x) (.r (.r (.r (.r (.r (.two (.r (.l (.r (.r (.r (.r (.r (.r (.r (.r (.r (.r (.r (.r (.r (.l (.r (.l (.piece [(.nrm, ⟨[(4, vs)], rg 71 6, [(0, aF)], []⟩)] .none))))))))))))))))))) (.r (.l (.l (.piece [(.nrm, ⟨[(99, vb)], rg 94 5, [], []⟩)] .none)))))))))) := eqn Tryz.f428
theorem ia.eq : Eqn (Q [gK.spec, ig.spec, fE.spec, ba.spec]) ia.spec (.r (.r (.r (.r (.l (.l (.loop ⟨[(3, (false, (.own .w))), (4, (false, (.own .y)))], [5, 6] ++ rg 12 34, [], [2]⟩ [(.ext 0, ⟨[(4, (false, (.own .y)))], [3, 5, 6] ++ rg 12 34, [], [2]⟩)] (.r (.l (.r (.l (.r (.l (.loop ⟨[(5, (false, (.frz (.int .u64)))), (6, vi)], rg 18 20, [(3, (.own .w))], []⟩ [(.ext 2, ⟨[(5, (false, (.frz (.int .u64))))], [6] ++ rg 18 20, [(3, (.own .w))], []⟩)] .none)))))))))))))) := eqn Tryz.f79
theorem fV.eq : Eqn (Q [b9.spec, eU.spec, cL.spec, fK.spec, fC.spec]) fV.spec (.r (.two (.l (.piece [(.nrm, ⟨[(26, vb)], rg 4 22, [], []⟩)] .none)) (.l (.r (.l (.loop ⟨[(30, vi)], [2, 3] ++ rg 31 29, [], []⟩ [(.ext 0, ⟨[], [2, 3] ++ rg 30 30, [], []⟩), (.ret, ⟨[(2, vb)], [3] ++ rg 30 30, [], []⟩)] (.r (.r (.l (.l (.r (.l (.piece [(.nrm, ⟨[(58, vb)], rg 33 25, [], []⟩)] .none))))))))))))) := eqn Tryz.f12
theorem dK.eq : Eqn (Q [fZ.spec, eo.spec, bD.spec, cu.spec, cw.spec, dd.spec, dm.spec]) dK.spec (.r (.r (.l (.l (.r (.r (.r (.r (.two (.piece [(.nrm, ⟨[(29, vb)], rg 30 6, [], []⟩)] .none) (.r (.l (.piece [(.nrm, ⟨[(40, vb)], rg 41 6, [], []⟩)] .none)))))))))))) := eqn Tryz.f158
theorem iI.eq : Eqn (Q [eV.spec]) iI.spec (.r (.two (.l (.piece [(.nrm, ⟨[(25, vb)], rg 7 18, [], []⟩)] .none)) (.r (.l (.r (.l (.loop ⟨[(4, vi), (28, vi)], [2, 3, 6] ++ rg 29 13, [], []⟩ [(.ext 0, ⟨[(4, vi)], [2, 3, 6] ++ rg 28 14, [], []⟩), (.ret, ⟨[(2, vi), (3, vb)], [4, 6] ++ rg 28 14, [], []⟩)] .none))))))) := eqn Tryz.f323
theorem fU.eq : Eqn (Q [iV.spec, jP.spec, dq.spec, gK.spec, ig.spec, gl.spec, fE.spec]) fU.spec (.r (.two (.l (.piece [(.nrm, ⟨[(12, vb)], rg 7 5, [], []⟩)] .none)) (.r (.l (.l (.piece [(.nrm, ⟨[(25, vb)], rg 19 6, [], []⟩)] .none)))))) := eqn Tryz.f81
theorem eval_run_call.eq (G : bU) : Eqn (Q [gQ.spec, fQ.spec, eval_run_apply.spec G, eval_run_does.spec G, aC.spec, cD.spec]) (eval_run_call.g.sp 301 fun x => R.eval_run_call G x.1 x.2.1 x.2.2.1 x.2.2.2) .none := eqn Tryz.f301
theorem gd.eq : Eqn (Q [bG.spec]) gd.spec (.r (.r (.l (.r (.l (.loop ⟨[(5, (false, (.own .y))), (9, vi)], [6] ++ rg 10 11, [], []⟩ [(.ext 0, ⟨[(5, (false, (.own .y)))], [6] ++ rg 9 12, [], []⟩)] .none)))))) := eqn Tryz.f431
theorem ba.eq : Eqn (Q []) ba.spec (.r (.l (.loop ⟨[(2, vi), (3, vi)], rg 7 21, [(0, (.own .y))], []⟩ [(.ext 0, ⟨[], [2, 3] ++ rg 7 21, [(0, (.own .y))], []⟩)] .none))) := eqn Tryz.f120
theorem bO.eq : Eqn (Q [bV.spec, cT.spec, eT.spec]) bO.spec (.r (.l (.l (.piece [(.nrm, ⟨[(24, vb)], rg 14 10, [], []⟩)] .none)))) := eqn Tryz.f147
theorem aS.eq : Eqn (Q [aT.spec]) aS.spec .none := eqn Tryz.f85
theorem bu.eq : Eqn (Q [ia.spec, gg 80 (.int .u16), bx.spec, iZ.spec, ah.spec]) bu.spec .none := eqn Tryz.f48
theorem gr.eq : Eqn (Q [jo.spec, jq.spec, dz.spec, ec.spec]) gr.spec .none := eqn Tryz.f328
theorem aC.eq : Eqn (Q [cY.spec, bY.spec]) aC.spec .none := eqn Tryz.f287
theorem cJ.eq : Eqn (Q [cf.spec, dX.spec]) cJ.spec .none := eqn Tryz.f8
theorem aI.eq : Eqn (Q [ay.spec]) aI.spec .none := eqn Tryz.f184
theorem ed.eq : Eqn (Q [eP.spec]) ed.spec .none := eqn Tryz.f256
theorem gW.eq : Eqn (Q [gg 70 (.int .u32)]) gW.spec .none := eqn Tryz.f46
theorem ae.eq : Eqn (Q []) ae.spec .none := eqn Tryz.f214
theorem eV.eq : Eqn (Q []) eV.spec .none := eqn Tryz.f87
theorem iY.eq : Eqn (Q []) iY.spec .none := eqn Tryz.f173
end Go.Mach
set_option linter.unusedVariables false
set_option maxRecDepth 100000
namespace Go.Mach
open Go.Proofs
def parse_parser_declares.ann : Ann := (.r (.r (.two (.piece [(.nrm, ⟨[], rg 6 5, [(0, aF), (3, (.box ld))], [2]⟩)] .none) (.l (.loop ⟨[], [4] ++ rg 11 27, [(0, aF), (3, (.box ld))], [5]⟩ [(.ret, ⟨[], [4] ++ rg 11 27, [(0, aF), (1, (.box ld))], [3, 5]⟩)] (.l (.r (.two (.piece [(.nrm, ⟨[], rg 14 9, [(0, aF), (12, (.box ld))], [11]⟩)] .none) (.r (.l (.piece [(.nrm, ⟨[(36, vb)], rg 29 7, [(0, aF)], []⟩)] .none)))))))))))
theorem parse_parser_declares.eq_ (g_parse_made : type_of% R.aX) (g_parse_named : type_of% R.ae) (g_parse_parser_fine : type_of% R.bN) (g_parse_parser_name : type_of% R.ax) (g_parse_parser_need : type_of% R.aR) (g_parse_parser_take : type_of% R.aI) (G : bJ) : Eqn (Q [(aX.g.sp 159 fun x => g_parse_made x.1 x.2), (ae.g.sp 214 fun x => g_parse_named x.1 x.2.1 x.2.2), parse_parser_assign.spec G, (bN.g.sp 216 fun x => g_parse_parser_fine x), (ax.g.sp 185 fun x => g_parse_parser_name x), (aR.g.sp 213 fun x => g_parse_parser_need x.1 x.2), (aI.g.sp 184 fun x => g_parse_parser_take x.1 x.2)]) (parse_parser_declares.g.sp 182 fun x => Res.given (parse_parser_declares.g.i x) (Res.bind (g_parse_made 5 ([] : List (aK aB.den))) fun r1 => Res.given (aX.g.o r1) (Res.bind (α := (aF.den × (aB.den × (List (aK aB.den))))) (Res.bind (g_parse_parser_take x [99, 111, 110, 115, 116]) fun r2 => Res.given (aI.g.o r2) (Res.br r2.1 (Res.bind (g_parse_made 6 ([] : List (aK aB.den))) fun r3 => Res.given (aX.g.o r3) (Res.ok ((r2.2, r3)))) (Res.bind (g_parse_parser_need r2.2 [108, 101, 116]) fun r4 => Res.given (aR.g.o r4) (Res.ok ((r4.2, r1)))))) fun x5 => Res.bind (Res.loop (α := (aF.den × (aB.den × (List (aK aB.den))))) (β := (aF.den × (aB.den × (List (aK aB.den))))) (fun x6 => Res.bind (g_parse_parser_name x6.1) fun r7 => Res.given (ax.g.o r7) (Res.bind (g_parse_named 7 r7.1 ([] : List (aK aB.den))) fun r8 => Res.given (ae.g.o r8) (Res.bind (α := (aF.den × (aB.den × (List (aK aB.den))))) (Res.bind (g_parse_parser_take r7.2 [61]) fun r9 => Res.given (aI.g.o r9) (Res.br r9.1 (Res.bind (G.parse_parser_assign r9.2) fun r10 => Res.given (parse_parser_assign.g.o r10) (Res.av (decide ((r8.2.length + [(aK.mk (aK.lab r10.1) (aK.kids r10.1))].length) * 144 ≤ 2 ^ 47)) (Res.ok ((r10.2, (r8.1, (r8.2 ++ [(aK.mk (aK.lab r10.1) (aK.kids r10.1))]))))))) (Res.ok ((r9.2, r8))))) fun x11 => Res.av (decide ((x6.2.2.length + [(aK.mk x11.2.1 x11.2.2)].length) * 144 ≤ 2 ^ 47)) (Res.bind (α := (Bool × aF.den)) (Res.bind (g_parse_parser_fine x11.1) fun r12 => Res.br (!r12) (Res.ok ((true, x11.1))) (Res.bind (g_parse_parser_take x11.1 [44]) fun r13 => Res.given (aI.g.o r13) (Res.ok (((!r13.1), r13.2))))) fun x14 => Res.br x14.1 (Res.ok (.done ((x14.2, (x6.2.1, (x6.2.2 ++ [(aK.mk x11.2.1 x11.2.2)])))))) (Res.ok (.next ((x14.2, (x6.2.1, (x6.2.2 ++ [(aK.mk x11.2.1 x11.2.2)])))))))))) fuel x5) fun x15 => Res.ok (((aK.mk x15.2.1 x15.2.2), x15.1))))) parse_parser_declares.ann := eqn Tryz.f182
theorem parse_parser_declares.eq (G : bJ) : Eqn (Q [aX.spec, ae.spec, parse_parser_assign.spec G, bN.spec, ax.spec, aR.spec, aI.spec]) (parse_parser_declares.g.sp 182 fun x => R.parse_parser_declares G x) parse_parser_declares.ann := parse_parser_declares.eq_ R.aX R.ae R.bN R.ax R.aR R.aI G
theorem eval_run_arguments.eq (G : bU) : Eqn (Q [eval_run_expression.spec G]) (eval_run_arguments.g.sp 279 fun x => R.eval_run_arguments G x.1 x.2.1 x.2.2) (.r (.r (.l (.r (.l (.loop ⟨[(9, (false, (.own (.frz aA)))), (16, vi)], [6, 8, 11, 12, 13] ++ rg 17 19, [(2, aM)], [0, 1]⟩ [(.ext 0, ⟨[(9, (false, (.own (.frz aA))))], [6, 8, 11, 12, 13] ++ rg 16 20, [(2, aM)], [0, 1]⟩), (.ret, ⟨[(6, (false, (.own (.frz aA)))), (8, vi)], [9, 11, 12, 13] ++ rg 16 20, [(2, aM), (4, (.box (.frz aA)))], [0, 1]⟩)] .none)))))) := eqn Tryz.f279
theorem cm.eq : Eqn (Q [cg.spec, bG.spec, dD.spec, eI.spec, fQ.spec, bz.spec, aQ.spec, dV.spec, ak.spec, aO.spec, ah.spec, iI.spec, dx.spec]) cm.spec (.r (.r (.two (.piece [(.nrm, ⟨[(8, vs)], [25, 26], [], []⟩)] .none) (.r (.r (.r (.l (.r (.l (.r (.r (.r (.r (.r (.r (.r (.r (.l (.piece [(.nrm, ⟨[(125, vb)], [126, 127], [], []⟩)] .none))))))))))))))))))) := eqn Tryz.f343
theorem eval_run_builds.eq (G : bU) : Eqn (Q [cj.spec, bn.spec, aq.spec, eval_run_does.spec G, aQ.spec, dM.spec, aC.spec, dc.spec, gn.spec]) (eval_run_builds.g.sp 302 fun x => R.eval_run_builds G x.1 x.2.1 x.2.2) (.r (.l (.r (.l (.two (.piece [(.nrm, ⟨[(12, vb)], rg 13 5, [], []⟩)] .none) (.r (.l (.piece [(.nrm, ⟨[(22, vb)], rg 23 5, [], []⟩)] .none)))))))) := eqn Tryz.f302
theorem eval_run_list.eq (G : bU) : Eqn (Q [eval_run_statement.spec G]) (eval_run_list.g.sp 110 fun x => R.eval_run_list G x.1 x.2.1 x.2.2) (.r (.l (.r (.l (.loop ⟨[(12, vi)], [8, 9] ++ rg 13 12, [(2, aM)], [0, 1]⟩ [(.ext 0, ⟨[], [8, 9] ++ rg 12 13, [(2, aM)], [0, 1]⟩), (.ret, ⟨[], [8, 9] ++ rg 12 13, [(2, aM), (4, (.box (.frz bW)))], [0, 1]⟩)] .none))))) := eqn Tryz.f110
theorem iw.eq : Eqn (Q [fZ.spec, eo.spec]) iw.spec (.r (.l (.r (.l (.loop ⟨[(7, vi)], [2, 3, 4] ++ rg 8 19, [], []⟩ [(.ext 0, ⟨[], [2, 3, 4] ++ rg 7 20, [], []⟩), (.ret, ⟨[(2, vb)], [3, 4] ++ rg 7 20, [], []⟩)] (.r (.r (.l (.l (.r (.r (.l (.piece [(.nrm, ⟨[(25, vb)], rg 14 11, [], []⟩)] .none))))))))))))) := eqn Tryz.f100
theorem dS.eq : Eqn (Q [dy.spec, fW.spec, gH.spec]) dS.spec (.r (.r (.r (.l (.r (.l (.loop ⟨[(14, vi)], [2, 3, 5] ++ rg 15 8, [], []⟩ [(.ext 0, ⟨[], [2, 3, 5] ++ rg 14 9, [], []⟩), (.ret, ⟨[(2, vi), (3, vi)], [5] ++ rg 14 9, [], []⟩)] .none))))))) := eqn Tryz.f26
theorem fg.eq : Eqn (Q []) fg.spec (.r (.r (.l (.r (.l (.loop ⟨[(4, vi), (9, vi)], [2, 3, 6] ++ rg 10 12, [], []⟩ [(.ext 0, ⟨[(4, vi)], [2, 3, 6] ++ rg 9 13, [], []⟩), (.ret, ⟨[(2, vi), (3, vb)], [4, 6] ++ rg 9 13, [], []⟩)] .none)))))) := eqn Tryz.f88
theorem fX.eq : Eqn (Q [ez.spec]) fX.spec (.r (.l (.r (.l (.loop ⟨[(7, vi)], [2, 4] ++ rg 8 7, [], []⟩ [(.ext 0, ⟨[], [2, 4] ++ rg 7 8, [], []⟩), (.ret, ⟨[(2, vb)], [4] ++ rg 7 8, [], []⟩)] .none))))) := eqn Tryz.f72
theorem eval_run_callee.eq (G : bU) : Eqn (Q [eval_run_arguments.spec G, eval_run_call.spec G, eval_run_called.spec G]) (eval_run_callee.g.sp 278 fun x => R.eval_run_callee G x.1 x.2.1 x.2.2) .none := eqn Tryz.f278
theorem parse_parser_arguments.eq (G : bJ) : Eqn (Q [parse_parser_list.spec G, aR.spec]) (parse_parser_arguments.g.sp 391 fun x => R.parse_parser_arguments G x) .none := eqn Tryz.f391
theorem de.eq : Eqn (Q [bV.spec]) de.spec (.r (.r (.r (.l (.l (.piece [(.nrm, ⟨[(42, vb)], rg 20 22, [], []⟩)] .none)))))) := eqn Tryz.f430
theorem dm.eq : Eqn (Q [iF.spec, cW.spec, al.spec]) dm.spec .none := eqn Tryz.f176
theorem dE.eq : Eqn (Q [bV.spec, cT.spec, eT.spec]) dE.spec .none := eqn Tryz.f168
theorem cj.eq : Eqn (Q [bx.spec, bR.spec, iO.spec]) cj.spec .none := eqn Tryz.f334
theorem bt.eq : Eqn (Q [b8.spec]) bt.spec .none := eqn Tryz.f374
theorem jN.eq : Eqn (Q [dq.spec, gK.spec, ig.spec]) jN.spec .none := eqn Tryz.f75
theorem eQ.eq : Eqn (Q [fy.spec]) eQ.spec .none := eqn Tryz.f163
theorem dz.eq : Eqn (Q [cZ.spec]) dz.spec .none := eqn Tryz.f319
theorem gJ.eq : Eqn (Q [bG.spec]) gJ.spec .none := eqn Tryz.f54
theorem eS.eq : Eqn (Q []) eS.spec .none := eqn Tryz.f107
theorem iE.eq : Eqn (Q []) iE.spec .none := eqn Tryz.f63
theorem eA.eq : Eqn (Q []) eA.spec .none := eqn Tryz.f181
end Go.Mach
