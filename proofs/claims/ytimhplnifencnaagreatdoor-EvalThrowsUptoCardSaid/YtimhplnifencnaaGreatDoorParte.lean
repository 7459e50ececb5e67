/-
  Proved here: the law renlaw12.EvalThrows returns true for every input of the stated bulk and leaves its arguments as they were; no further condition.
  By an AI agent; no person has read it.
-/
import Derived.Test.YtimhplnifencnaaGreatDoorPartd
import Derived.KernelRfl
import Derived.Test.YtimhplnifencnaaGreatDoorProg
set_option linter.all false
set_option linter.deprecated false
set_option linter.unusedVariables false
set_option maxRecDepth 100000
namespace Go.Mach
open Go.Proofs
theorem eB.eq : Eqn (Q [aR.spec, au.spec, gR.spec, fU.spec, et.spec, fa.spec]) eB.spec (.r (.two (.l (.loop ⟨[(0, (false, (.bor (.own .h))))], rg 11 11, [], []⟩ [(.ext 0, ⟨[(0, (false, (.bor (.own .h))))], rg 11 11, [], []⟩)] (.l (.l (.piece [(.nrm, ⟨[(19, vb)], rg 11 8, [], []⟩)] .none))))) (.two (.l (.loop ⟨[(0, (false, (.bor (.own .h))))], rg 22 17, [], []⟩ [(.ext 2, ⟨[(0, (false, (.bor (.own .h))))], rg 22 17, [], []⟩)] (.l (.l (.piece [(.nrm, ⟨[(33, vb)], rg 22 11, [], []⟩)] .none))))) (.r (.r (.r (.two (.piece [(.nrm, ⟨[(5, (false, (.bor (.own .h))))], rg 49 9, [], []⟩)] (.l (.piece [(.nrm, ⟨[(55, vb)], rg 49 6, [], []⟩)] .none))) (.r (.l (.piece [(.nrm, ⟨[(8, vb)], [9, 10] ++ rg 62 21 ++ [84, 85], [(7, (.box (.frz aL)))], []⟩), (.ret, ⟨[(3, vb)], [9, 10] ++ rg 62 4 ++ rg 67 17, [(1, (.box (.frz aL)))], []⟩)] (.l (.r (.r (.l (.piece [(.nrm, ⟨[(67, vb)], rg 68 8, [], []⟩)] .none))))))))))))))) := eqn Tryz.f65
theorem eval_run_decls.eq (G : aw) : Eqn (Q [eval_run_expression.spec G, ca.spec]) (eval_run_decls.g.sp 251 fun x => R.eval_run_decls G x.1 x.2.1 x.2.2) (.r (.l (.r (.l (.loop ⟨[(15, vi)], rg 8 5 ++ rg 16 42, [(2, aH)], [0, 1]⟩ [(.ext 0, ⟨[], rg 8 5 ++ rg 15 43, [(2, aH)], [0, 1]⟩), (.ret, ⟨[], rg 8 5 ++ rg 15 43, [(2, aH), (4, (.box (.frz af)))], [0, 1]⟩)] (.r (.r (.l (.l (.r (.r (.r (.l (.piece [(.nrm, ⟨[], [11, 12] ++ rg 27 16 ++ [46], [(2, aH), (11, (.box (.frz aA)))], [5, 6]⟩), (.ret, ⟨[], [11, 12] ++ rg 27 19, [(2, aH), (4, (.box (.frz af)))], [5, 6]⟩)] .none)))))))))))))) := eqn Tryz.f251
theorem fe.eq : Eqn (Q [gS.spec, fp.spec, fX.spec]) fe.spec (.r (.r (.r (.two (.l (.piece [(.nrm, ⟨[(36, vb)], rg 25 11, [], []⟩)] .none)) (.two (.r (.l (.loop ⟨[(40, vi)], [4, 8, 9, 10] ++ rg 41 23, [], []⟩ [(.ext 0, ⟨[], [4, 8, 9, 10] ++ rg 40 24, [], []⟩), (.ret, ⟨[(4, vb)], [8, 9, 10] ++ rg 40 24, [], []⟩)] (.r (.r (.l (.l (.r (.r (.l (.piece [(.nrm, ⟨[(10, vi)], rg 46 8, [], []⟩)] .none))))))))))) (.l (.l (.r (.r (.l (.piece [(.nrm, ⟨[(90, vb)], rg 91 9, [], []⟩)] .none))))))))))) := eqn Tryz.f40
theorem parse_parser_calls.eq (G : a8) : Eqn (Q [aV.spec, parse_parser_arguments.spec G, parse_parser_head.spec G, parse_parser_member.spec G, al.spec]) (parse_parser_calls.g.sp 376 fun x => R.parse_parser_calls G x) (.r (.l (.r (.r (.l (.l (.loop ⟨[], [4, 5] ++ rg 8 17, [(0, aD), (3, (.box (.frz (.rose aB))))], []⟩ [(.ext 0, ⟨[], [4, 5] ++ rg 8 17, [(0, aD), (3, (.box (.frz (.rose aB))))], []⟩)] .none))))))) := eqn Tryz.f376
theorem eval_run_block.eq (G : aw) : Eqn (Q [dV.spec, bX.spec, eval_run_list.spec G, bJ.spec]) (eval_run_block.g.sp 250 fun x => R.eval_run_block G x.1 x.2.1 x.2.2) (.r (.l (.piece [(.nrm, ⟨[], rg 7 21 ++ rg 30 11, [(2, aH), (3, (.box (.frz aQ)))], [0, 1]⟩), (.ret, ⟨[], rg 7 37, [(2, aH), (4, (.box (.frz af)))], [0, 1, 3]⟩)] .none))) := eqn Tryz.f250
theorem fV.eq : Eqn (Q [dB.spec, cg.spec]) fV.spec (.r (.r (.r (.r (.l (.loop ⟨[(6, (false, (.own (.frz bO))))], [2, 3, 4] ++ rg 7 4 ++ rg 17 41, [(0, (.box (.frz ff)))], []⟩ [(.ret, ⟨[(2, (false, (.own (.frz bO)))), (3, vi), (4, vi)], rg 6 5 ++ rg 17 41, [], [0]⟩)] .none)))))) := eqn Tryz.f178
theorem cU.eq : Eqn (Q [bx.spec, bS.spec, bH.spec, cX.spec, au.spec, eB.spec]) cU.spec (.r (.r (.r (.l (.l (.l (.piece [(.nrm, ⟨[(12, vb)], rg 13 7, [], []⟩)] .none))))))) := eqn Tryz.f234
theorem fa.eq : Eqn (Q []) fa.spec (.r (.r (.l (.r (.l (.loop ⟨[(4, vi), (9, vi)], [2, 3, 6] ++ rg 10 12, [], []⟩ [(.ext 0, ⟨[(4, vi)], [2, 3, 6] ++ rg 9 13, [], []⟩), (.ret, ⟨[(2, vi), (3, vb)], [4, 6] ++ rg 9 13, [], []⟩)] .none)))))) := eqn Tryz.f122
theorem cS.eq : Eqn (Q []) cS.spec (.r (.r (.l (.r (.l (.loop ⟨[(5, vi)], [4] ++ rg 11 15, [], []⟩ [(.ext 0, ⟨[], [4, 5] ++ rg 11 15, [], []⟩), (.ret, ⟨[(4, vb)], [5] ++ rg 11 15, [], []⟩)] .none)))))) := eqn Tryz.f30
theorem parse_parser_simple.eq (G : a8) : Eqn (Q [aV.spec, parse_parser_assign.spec G, bQ.spec]) (parse_parser_simple.g.sp 281 fun x => R.parse_parser_simple G x) .none := eqn Tryz.f281
theorem cj.eq : Eqn (Q [cK.spec, bT.spec, cd.spec, ai.spec, aY.spec, aC.spec]) cj.spec .none := eqn Tryz.f368
theorem bZ.eq : Eqn (Q [gI.spec, fi 70 (.int .u16), bc.spec, gM.spec, au.spec]) bZ.spec .none := eqn Tryz.f32
theorem dO.eq : Eqn (Q [bL.spec, cp.spec, gj.spec]) dO.spec .none := eqn Tryz.f45
theorem aJ.eq : Eqn (Q [bB.spec]) aJ.spec .none := eqn Tryz.f131
theorem az.eq : Eqn (Q [ep.spec]) az.spec .none := eqn Tryz.f236
theorem hB.eq : Eqn (Q [fD.spec, fi 109 (.int .u32)]) hB.spec .none := eqn Tryz.f98
theorem gB.eq : Eqn (Q [gZ.spec, gA.spec]) gB.spec .none := eqn Tryz.f128
theorem aW.eq : Eqn (Q []) aW.spec .none := eqn Tryz.f279
theorem bM.eq : Eqn (Q []) bM.spec .none := eqn Tryz.f215
theorem fU.eq : Eqn (Q []) fU.spec .none := eqn Tryz.f116
theorem gT.eq : Eqn (Q []) gT.spec .none := eqn Tryz.f373
theorem fD.eq : Eqn (Q []) fD.spec .none := eqn Tryz.f37
end Go.Mach
set_option linter.unusedVariables false
set_option maxRecDepth 100000
namespace Go.Mach
open Go.Proofs
theorem bk.eq : Eqn (Q [ai.spec, bJ.spec, ay.spec, au.spec]) bk.spec (.r (.r (.r (.two (.piece [(.nrm, ⟨[(10, vb)], rg 29 8, [], []⟩)] .none) (.two (.piece [(.nrm, ⟨[], [11, 12] ++ rg 37 10 ++ rg 49 11, [(2, aH), (7, (.box (.seq .i (.seq .i (.seq (.own (.frz bw)) (.seq (.own (.frz bA)) (.seq .s (.seq .i (.seq .i (.seq (.seq .i (.seq (.frz aL) (.seq (.seq .b (.own .w)) (.seq (.own .h) .i)))) (.seq .i (.seq .i (.seq .i (.seq .i (.own .y)))))))))))))))], [0, 1]⟩), (.ret, ⟨[(7, vi)], [11, 12] ++ rg 37 12, [(2, aH), (4, (.box (.seq .i (.seq (.frz aL) (.seq (.seq .b (.own .w)) (.seq (.own .h) .i))))))], [0, 1]⟩)] .none) (.r (.two (.piece [(.nrm, ⟨[], rg 63 13, [(7, (.box jT))], [11, 12, 13, 14, 15]⟩)] (.l (.l (.piece [(.nrm, ⟨[(63, vb)], rg 64 5, [], []⟩)] .none)))) (.r (.l (.l (.piece [(.nrm, ⟨[(86, vb)], rg 82 4, [], []⟩)] .none))))))))))) := eqn Tryz.f195
theorem bX.eq : Eqn (Q [bk.spec, ay.spec]) bX.spec (.r (.l (.r (.l (.loop ⟨[(25, vi)], [7, 9, 10, 12, 13, 14] ++ rg 26 68, [(2, aH)], [0, 1]⟩ [(.ext 0, ⟨[], [7, 9, 10, 12, 13, 14] ++ rg 25 69, [(2, aH)], [0, 1]⟩), (.ret, ⟨[(7, vi)], [9, 10, 12, 13, 14] ++ rg 25 69, [(2, aH), (4, (.box (.frz aA)))], [0, 1]⟩)] (.r (.r (.l (.l (.r (.r (.r (.l (.two (.piece [(.nrm, ⟨[(39, vb)], [40, 41], [], []⟩)] .none) (.l (.r (.l (.loop ⟨[(45, vi)], [12] ++ rg 46 24, [(7, fw)], [6]⟩ [(.ext 3, ⟨[], [12] ++ rg 45 25, [(7, fw)], [6]⟩)] .none)))))))))))))))))) := eqn Tryz.f145
theorem parse_parser_assign.eq (G : a8) : Eqn (Q [dM.spec, aX.spec, aW.spec, cW.spec, parse_parser_assign.spec G, parse_parser_body.spec G, parse_parser_cond.spec G, aF.spec, cA.spec, gg.spec, di.spec]) (parse_parser_assign.g.sp 273 fun x => R.parse_parser_assign G x) (.r (.two (.r (.l (.piece [(.nrm, ⟨[(21, vb)], rg 8 13, [], []⟩)] .none))) (.r (.r (.r (.l (.l (.piece [(.nrm, ⟨[(53, vb)], rg 45 8, [], []⟩)] .none)))))))) := eqn Tryz.f273
theorem parse_parser_level.eq (G : a8) : Eqn (Q [ey.spec, aX.spec, parse_parser_level.spec G, aF.spec, parse_parser_unary.spec G]) (parse_parser_level.g.sp 332 fun x => R.parse_parser_level G x.1 x.2) (.r (.r (.r (.l (.l (.loop ⟨[], [6] ++ rg 15 23, [(0, aD), (3, (.box (.frz (.rose aB))))], []⟩ [(.ext 0, ⟨[], [6] ++ rg 15 23, [(0, aD), (3, (.box (.frz (.rose aB))))], []⟩)] .none)))))) := eqn Tryz.f332
theorem dZ.eq : Eqn (Q [fl.spec, ef.spec, aY.spec, aC.spec, ca.spec, cc.spec]) dZ.spec (.r (.r (.two (.l (.two (.piece [(.nrm, ⟨[(27, vb)], rg 28 6, [], []⟩)] .none) (.r (.l (.piece [(.nrm, ⟨[(38, vb)], rg 39 5, [], []⟩)] .none))))) (.l (.r (.l (.piece [(.nrm, ⟨[(68, vb)], rg 64 4, [], []⟩)] .none))))))) := eqn Tryz.f359
theorem ch.eq : Eqn (Q [cR.spec, bZ.spec, ai.spec, aC.spec]) ch.spec (.r (.r (.l (.piece [(.nrm, ⟨[], [9, 10] ++ rg 12 10 ++ [27, 28], [(5, (.box (.frz aA)))], []⟩), (.ret, ⟨[(7, vi)], [9, 10] ++ rg 12 15, [(2, aH), (4, (.box (.frz aA)))], [0, 1]⟩)] .none)))) := eqn Tryz.f384
theorem cO.eq : Eqn (Q [dL.spec, ei.spec, eH.spec]) cO.spec (.r (.r (.r (.l (.r (.l (.loop ⟨[(14, vi)], [2, 3, 5] ++ rg 15 8, [], []⟩ [(.ext 0, ⟨[], [2, 3, 5] ++ rg 14 9, [], []⟩), (.ret, ⟨[(2, vi), (3, vi)], [5] ++ rg 14 9, [], []⟩)] .none))))))) := eqn Tryz.f43
theorem fQ.eq : Eqn (Q [aJ.spec]) fQ.spec (.r (.l (.r (.l (.loop ⟨[(7, vi)], [2, 3, 4] ++ rg 8 10, [], []⟩ [(.ext 0, ⟨[], [2, 3, 4] ++ rg 7 11, [], []⟩), (.ret, ⟨[(2, vb)], [3, 4] ++ rg 7 11, [], []⟩)] .none))))) := eqn Tryz.f137
theorem eM.eq : Eqn (Q []) eM.spec (.r (.r (.l (.r (.l (.loop ⟨[(5, (false, (.own .s))), (15, vi)], [7] ++ rg 16 13, [], []⟩ [(.ext 0, ⟨[(5, (false, (.own .s)))], [7] ++ rg 15 14, [], []⟩)] .none)))))) := eqn Tryz.f186
theorem eval_run_binary.eq (G : aw) : Eqn (Q [eval_run_expression.spec G, cM.spec, eC.spec]) (eval_run_binary.g.sp 324 fun x => R.eval_run_binary G x.1 x.2.1 x.2.2) .none := eqn Tryz.f324
theorem eval_run_property.eq (G : aw) : Eqn (Q [dQ.spec, eval_run_parts.spec G]) (eval_run_property.g.sp 330 fun x => R.eval_run_property G x.1 x.2.1 x.2.2) .none := eqn Tryz.f330
theorem dC.eq : Eqn (Q [gA.spec, bx.spec, ae.spec]) dC.spec .none := eqn Tryz.f233
theorem dG.eq : Eqn (Q [bZ.spec, dS.spec, cS.spec]) dG.spec .none := eqn Tryz.f18
theorem cd.eq : Eqn (Q [fi 70 (.int .u16), bM.spec]) cd.spec .none := eqn Tryz.f391
theorem gg.eq : Eqn (Q [aJ.spec, dW.spec]) gg.spec .none := eqn Tryz.f302
theorem cM.eq : Eqn (Q [aC.spec]) cM.spec .none := eqn Tryz.f338
theorem eT.eq : Eqn (Q [dZ.spec]) eT.spec .none := eqn Tryz.f343
theorem bd.eq : Eqn (Q []) bd.spec .none := eqn Tryz.f197
theorem ev.eq : Eqn (Q []) ev.spec .none := eqn Tryz.f121
theorem eY.eq : Eqn (Q []) eY.spec .none := eqn Tryz.f35
end Go.Mach
set_option linter.unusedVariables false
set_option maxRecDepth 100000
namespace Go.Mach
open Go.Proofs
theorem fJ.eq : Eqn (Q []) fJ.spec (.r (.r (.l (.r (.l (.loop ⟨[(3, (false, (.own .i))), (10, vi)], [2, 4, 5, 6] ++ rg 11 59, [], []⟩ [(.ext 0, ⟨[(3, (false, (.own .i)))], [2, 4, 5, 6] ++ rg 10 60, [], []⟩), (.ret, ⟨[(2, vb)], rg 3 4 ++ rg 10 60, [], []⟩)] (.r (.r (.l (.l (.r (.two (.piece [(.nrm, ⟨[(3, (false, (.own .i)))], rg 15 20, [], [2]⟩), (.ret, ⟨[(2, vb)], rg 15 15, [], []⟩)] (.r (.l (.l (.l (.piece [(.nrm, ⟨[(29, vb)], rg 17 12, [], []⟩)] .none)))))) (.r (.l (.loop ⟨[(3, (false, (.own .i))), (6, vi)], [2] ++ rg 39 30, [], [5]⟩ [(.ext 2, ⟨[(3, (false, (.own .i)))], [2, 6] ++ rg 39 30, [], [5]⟩), (.ret, ⟨[(2, vb)], [3, 6] ++ rg 39 30, [], [5]⟩)] (.r (.l (.l (.l (.l (.piece [(.nrm, ⟨[(60, vb)], rg 43 17, [], []⟩)] .none))))))))))))))))))))) := eqn Tryz.f38
theorem cL.eq : Eqn (Q [ct.spec, dP.spec, eE.spec]) cL.spec (.r (.r (.two (.r (.l (.loop ⟨[(1, (false, (.own .s))), (13, vi)], [3, 5] ++ rg 14 19, [], [0]⟩ [(.ext 0, ⟨[(1, (false, (.own .s)))], [3, 5] ++ rg 13 20, [], [0]⟩)] (.r (.r (.l (.l (.r (.r (.l (.loop ⟨[(1, (false, (.own .s))), (20, vi)], [5] ++ rg 21 11, [], [4]⟩ [(.ext 2, ⟨[(1, (false, (.own .s)))], [5] ++ rg 20 12, [], [4]⟩)] .none))))))))))) (.r (.l (.r (.l (.loop ⟨[(1, (false, (.own .s))), (38, vi)], [7] ++ rg 39 11, [], [6]⟩ [(.ext 4, ⟨[(1, (false, (.own .s)))], [7] ++ rg 38 12, [], [6]⟩)] .none)))))))) := eqn Tryz.f372
theorem eval_run_assign.eq (G : aw) : Eqn (Q [eval_run_expression.spec G, eT.spec, eval_run_parts.spec G, aC.spec, eC.spec]) (eval_run_assign.g.sp 326 fun x => R.eval_run_assign G x.1 x.2.1 x.2.2) (.r (.r (.r (.r (.r (.two (.piece [(.nrm, ⟨[], [39, 40], [], []⟩)] .none) (.r (.l (.piece [(.nrm, ⟨[], [13, 14] ++ rg 66 11 ++ [82], [(11, (.box (.frz aA)))], []⟩), (.ret, ⟨[(7, vi)], [13, 14] ++ rg 66 16, [(2, aH), (5, (.box (.frz aA)))], [14, 15]⟩)] .none))))))))) := eqn Tryz.f326
theorem eval_run_operation.eq (G : aw) : Eqn (Q [fC.spec, eval_run_arguments.spec G, eval_run_assign.spec G, eval_run_binary.spec G, eval_run_callee.spec G, eval_run_expression.spec G, eval_run_fresh.spec G, eval_run_logic.spec G, eval_run_property.spec G]) (eval_run_operation.g.sp 313 fun x => R.eval_run_operation G x.1 x.2.1 x.2.2.1 x.2.2.2) (.r (.r (.l (.r (.l (.r (.r (.l (.piece [(.nrm, ⟨[(33, vb)], [34, 35], [], []⟩)] .none))))))))) := eqn Tryz.f313
theorem cC.eq : Eqn (Q [bZ.spec, dk.spec, er.spec, dG.spec, b8.spec, dJ.spec, bW.spec, cS.spec, eH.spec]) cC.spec (.r (.r (.r (.two (.l (.piece [(.nrm, ⟨[(29, vb)], rg 23 6, [], []⟩)] .none)) (.r (.r (.r (.l (.l (.piece [(.nrm, ⟨[(89, vb)], rg 77 12, [], []⟩)] .none)))))))))) := eqn Tryz.f8
theorem cc.eq : Eqn (Q [bd.spec, bz.spec, dh.spec]) cc.spec (.r (.l (.r (.l (.loop ⟨[(1, vi), (16, vi)], rg 7 4 ++ rg 17 37, [], []⟩ [(.ext 0, ⟨[], [1] ++ rg 7 4 ++ rg 16 38, [], []⟩), (.ret, ⟨[(7, vi), (8, vb)], [1, 9, 10] ++ rg 16 38, [(2, (.box (.frz bA)))], []⟩)] .none))))) := eqn Tryz.f334
theorem aT.eq : Eqn (Q [eR.spec]) aT.spec (.r (.l (.r (.l (.loop ⟨[(8, vi)], [4, 5] ++ rg 9 10, [], []⟩ [(.ext 0, ⟨[], [4, 5] ++ rg 8 11, [], []⟩), (.ret, ⟨[(4, vi)], [5] ++ rg 8 11, [], []⟩)] .none))))) := eqn Tryz.f175
theorem eval_run_logic.eq (G : aw) : Eqn (Q [fC.spec, eval_run_expression.spec G]) (eval_run_logic.g.sp 325 fun x => R.eval_run_logic G x.1 x.2.1 x.2.2) (.r (.r (.r (.r (.l (.piece [(.nrm, ⟨[(10, vb)], rg 25 19, [], []⟩)] .none)))))) := eqn Tryz.f325
theorem dX.eq : Eqn (Q [cK.spec, aC.spec]) dX.spec (.r (.r (.l (.piece [(.nrm, ⟨[(10, vi)], rg 18 8, [], []⟩)] (.l (.piece [(.nrm, ⟨[(25, vb)], rg 18 7, [], []⟩)] .none)))))) := eqn Tryz.f416
theorem dv.eq : Eqn ({ P := Tryz.prog, specs := [], ety := lR Tryz.prog owned, inls := [vJ 147 (ko.env Tryz.prog) Tryz.f147 .none] } : Env) dv.spec .none := eqn Tryz.f393
theorem dk.eq : Eqn (Q [cO.spec, iA.spec, dO.spec]) dk.spec (.r (.l (.r (.l (.piece [(.nrm, ⟨[(21, vb)], rg 15 6, [], []⟩)] .none))))) := eqn Tryz.f15
theorem jd.eq : Eqn (Q [eu.spec, fM.spec]) jd.spec (.r (.l (.l (.piece [(.nrm, ⟨[(9, vb)], rg 4 5, [], []⟩)] .none)))) := eqn Tryz.f155
theorem cX.eq : Eqn (Q [ah.spec]) cX.spec .none := eqn Tryz.f268
theorem ba.eq : Eqn (Q [bt.spec]) ba.spec .none := eqn Tryz.f424
theorem b9.eq : Eqn (Q [cR.spec, ai.spec]) b9.spec .none := eqn Tryz.f355
theorem dU.eq : Eqn (Q [bf.spec]) dU.spec .none := eqn Tryz.f392
theorem gR.eq : Eqn (Q [cN.spec]) gR.spec .none := eqn Tryz.f118
theorem bD.eq : Eqn (Q []) bD.spec .none := eqn Tryz.f274
theorem ct.eq : Eqn (Q []) ct.spec .none := eqn Tryz.f398
theorem aV.eq : Eqn (Q []) aV.spec .none := eqn Tryz.f209
theorem gJ.eq : Eqn (Q []) gJ.spec .none := eqn Tryz.f230
end Go.Mach
set_option linter.unusedVariables false
set_option maxRecDepth 100000
namespace Go.Mach
open Go.Proofs
theorem eval_run_host.eq (G : aw) : Eqn (Q [cZ.spec, cR.spec, bZ.spec, cd.spec, aY.spec, aC.spec, aj.spec]) (eval_run_host.g.sp 389 fun x => R.eval_run_host G x.1 x.2.1 x.2.2) (.r (.r (.two (.piece [(.nrm, ⟨[], rg 9 4 ++ rg 17 7 ++ rg 28 23 ++ rg 55 7 ++ rg 67 9 ++ rg 81 7, [(5, (.box (.frz cu)))], []⟩), (.ret, ⟨[(7, vi)], rg 9 6 ++ [17] ++ rg 19 9 ++ rg 31 24 ++ [60, 61] ++ rg 67 14 ++ [83, 84] ++ rg 86 14, [(2, aH), (4, (.box (.frz aA)))], [0, 1]⟩)] (.r (.l (.r (.r (.r (.l (.r (.l (.l (.piece [(.nrm, ⟨[(50, vb)], rg 43 7, [], []⟩)] .none))))))))))) (.r (.l (.l (.r (.r (.r (.r (.l (.piece [(.nrm, ⟨[(123, vb)], rg 124 8, [], []⟩)] .none)))))))))))) := eqn Tryz.f389
theorem ey.eq : Eqn (Q [dM.spec]) ey.spec (.r (.two (.l (.piece [(.nrm, ⟨[(10, vb)], rg 3 7, [], []⟩)] .none)) (.l (.r (.l (.r (.r (.r (.r (.r (.r (.two (.piece [(.nrm, ⟨[(19, vb)], rg 20 4, [], []⟩)] .none) (.r (.two (.piece [(.nrm, ⟨[(24, vb)], rg 25 5, [], []⟩)] .none) (.r (.two (.piece [(.nrm, ⟨[(30, vb)], [31, 32, 33], [], []⟩)] .none) (.r (.two (.piece [(.nrm, ⟨[(34, vb)], [35, 36], [], []⟩)] .none) (.r (.l (.piece [(.nrm, ⟨[(37, vb)], [38, 39, 40], [], []⟩)] .none))))))))))))))))))))) := eqn Tryz.f354
theorem cg.eq : Eqn (Q [ep.spec, eF.spec, az.spec, cU.spec, cP.spec, cz.spec, dC.spec]) cg.spec (.r (.r (.l (.l (.r (.r (.r (.r (.two (.piece [(.nrm, ⟨[(29, vb)], rg 30 6, [], []⟩)] .none) (.r (.l (.piece [(.nrm, ⟨[(40, vb)], rg 41 6, [], []⟩)] .none)))))))))))) := eqn Tryz.f208
theorem gZ.eq : Eqn (Q [ep.spec, eF.spec]) gZ.spec (.r (.l (.r (.l (.loop ⟨[(7, vi)], [2, 3, 4] ++ rg 8 19, [], []⟩ [(.ext 0, ⟨[], [2, 3, 4] ++ rg 7 20, [], []⟩), (.ret, ⟨[(2, vb)], [3, 4] ++ rg 7 20, [], []⟩)] (.r (.r (.l (.l (.r (.r (.l (.piece [(.nrm, ⟨[(25, vb)], rg 14 11, [], []⟩)] .none))))))))))))) := eqn Tryz.f129
theorem aU.eq : Eqn (Q [eS.spec]) aU.spec (.r (.l (.r (.l (.loop ⟨[(8, vi)], [4, 5] ++ rg 9 10, [], []⟩ [(.ext 0, ⟨[], [4, 5] ++ rg 8 11, [], []⟩), (.ret, ⟨[(4, vi)], [5] ++ rg 8 11, [], []⟩)] .none))))) := eqn Tryz.f213
theorem parse_parser_cond.eq (G : a8) : Eqn (Q [aV.spec, parse_parser_assign.spec G, parse_parser_either.spec G, aM.spec, aE.spec]) (parse_parser_cond.g.sp 301 fun x => R.parse_parser_cond G x) .none := eqn Tryz.f301
theorem cw.eq : Eqn (Q [cK.spec, ec.spec, bT.spec, dU.spec, ai.spec, aY.spec, eA.spec, aC.spec]) cw.spec .none := eqn Tryz.f371
theorem gA.eq : Eqn (Q []) gA.spec (.r (.l (.r (.l (.two (.piece [(.nrm, ⟨[(4, vb)], rg 5 22, [], []⟩)] .none) (.r (.l (.piece [(.nrm, ⟨[(27, vb)], rg 28 27, [], []⟩)] .none)))))))) := eqn Tryz.f181
theorem er.eq : Eqn (Q [fD.spec, eY.spec, fg.spec]) er.spec (.r (.r (.l (.r (.l (.l (.piece [(.nrm, ⟨[(7, vb)], [8, 9], [], []⟩)] .none))))))) := eqn Tryz.f12
theorem ef.eq : Eqn (Q [eG.spec, cb.spec, eE.spec, aJ.spec]) ef.spec .none := eqn Tryz.f336
theorem gS.eq : Eqn (Q [cY.spec, du.spec, di.spec]) gS.spec .none := eqn Tryz.f75
theorem eW.eq : Eqn (Q [ct.spec, bB.spec]) eW.spec .none := eqn Tryz.f395
theorem fZ.eq : Eqn (Q [eW.spec, cQ.spec]) fZ.spec .none := eqn Tryz.f370
theorem bh.eq : Eqn (Q [bM.spec]) bh.spec .none := eqn Tryz.f220
theorem dx.eq : Eqn (Q [dm.spec]) dx.spec .none := eqn Tryz.f83
theorem aF.eq : Eqn (Q []) aF.spec .none := eqn Tryz.f210
theorem iL.eq : Eqn (Q [fD.spec]) iL.spec .none := eqn Tryz.f99
theorem eE.eq : Eqn (Q []) eE.spec .none := eqn Tryz.f356
theorem dM.eq : Eqn (Q []) dM.spec .none := eqn Tryz.f238
end Go.Mach
