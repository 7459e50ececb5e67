/-
  Proved here: the law renlaw12.EvalUnaries returns true for every input of the stated bulk and leaves its arguments as they were; no further condition.
  By an AI agent; no person has read it.
-/
import Derived.Test.YtimhplnifencnaaGreatDoorPartf
import Derived.KernelRfl
import Derived.Test.YtimhplnifencnaaGreatDoorProg
set_option linter.all false
set_option linter.deprecated false
set_option linter.unusedVariables false
set_option maxRecDepth 100000
namespace Go.Mach
open Go.Proofs
theorem eval_run_host.eq (G : bI) : Eqn (Q [b8.spec, cR.spec, bt.spec, eE.spec, dO.spec, aO.spec, aD.spec, az.spec]) (eval_run_host.g.sp 389 fun x => R.eval_run_host G x.1 x.2.1 x.2.2) (.r (.r (.two (.piece [(.nrm, ⟨[], rg 9 4 ++ rg 17 7 ++ rg 28 23 ++ rg 55 7 ++ rg 67 9 ++ rg 81 7, [(5, (.box (.frz de)))], []⟩), (.ret, ⟨[(7, vi)], rg 9 6 ++ [17] ++ rg 19 9 ++ rg 31 24 ++ [60, 61] ++ rg 67 14 ++ [83, 84] ++ rg 86 14, [(2, aM), (4, (.box (.frz aA)))], [0, 1]⟩)] (.r (.l (.r (.r (.r (.l (.r (.l (.l (.piece [(.nrm, ⟨[(50, vb)], rg 43 7, [], []⟩)] .none))))))))))) (.r (.l (.l (.r (.r (.r (.r (.l (.piece [(.nrm, ⟨[(123, vb)], rg 124 8, [], []⟩)] .none)))))))))))) := eqn Tryz.f389
theorem cy.eq : Eqn (Q [dp.spec, eS.spec, fH.spec]) cy.spec (.r (.r (.two (.r (.l (.loop ⟨[(1, (false, (.own .s))), (13, vi)], [3, 5] ++ rg 14 19, [], [0]⟩ [(.ext 0, ⟨[(1, (false, (.own .s)))], [3, 5] ++ rg 13 20, [], [0]⟩)] (.r (.r (.l (.l (.r (.r (.l (.loop ⟨[(1, (false, (.own .s))), (20, vi)], [5] ++ rg 21 11, [], [4]⟩ [(.ext 2, ⟨[(1, (false, (.own .s)))], [5] ++ rg 20 12, [], [4]⟩)] .none))))))))))) (.r (.l (.r (.l (.loop ⟨[(1, (false, (.own .s))), (38, vi)], [7] ++ rg 39 11, [], [6]⟩ [(.ext 4, ⟨[(1, (false, (.own .s)))], [7] ++ rg 38 12, [], [6]⟩)] .none)))))))) := eqn Tryz.f372
theorem parse_parser_list.eq (G : bJ) : Eqn (Q [parse_parser_assign.spec G, bK.spec, aP.spec, aH.spec]) (parse_parser_list.g.sp 426 fun x => R.parse_parser_list G x.1 x.2) (.r (.r (.r (.l (.loop ⟨[(5, (false, (.own (.frz (.rose aB)))))], [4] ++ rg 10 16, [(0, aF)], []⟩ [(.ret, ⟨[(4, (false, (.own (.frz (.rose aB)))))], [5] ++ rg 10 16, [(0, aF)], []⟩)] (.l (.r (.l (.l (.piece [(.nrm, ⟨[(22, vb)], rg 15 7, [(0, aF)], []⟩)] .none)))))))))) := eqn Tryz.f426
theorem cc.eq : Eqn (Q [ai.spec, bK.spec, a8.spec, aP.spec, aH.spec]) cc.spec (.r (.r (.r (.r (.l (.loop ⟨[(3, (false, (.own (.frz (.rose aB)))))], [2] ++ rg 9 16, [(0, aF)], []⟩ [(.ret, ⟨[(2, (false, (.own (.frz (.rose aB)))))], [3] ++ rg 9 16, [(0, aF)], []⟩)] (.l (.r (.l (.l (.piece [(.nrm, ⟨[(21, vb)], rg 15 6, [(0, aF)], []⟩)] .none))))))))))) := eqn Tryz.f277
theorem parse_parser_statement.eq (G : bJ) : Eqn (Q [eK.spec, aY.spec, ai.spec, ah.spec, aI.spec, bA.spec, parse_parser_simple.spec G, parse_parser_statement.spec G, aH.spec, parse_parser_word.spec G]) (parse_parser_statement.g.sp 244 fun x => R.parse_parser_statement G x) (.r (.r (.l (.l (.l (.piece [(.nrm, ⟨[(6, vb)], rg 7 8, [], []⟩)] .none)))))) := eqn Tryz.f244
theorem parse_parser_item.eq (G : bJ) : Eqn (Q [eK.spec, parse_parser_declares.spec G, bc.spec, a8.spec, aI.spec, parse_parser_statement.spec G, aH.spec]) (parse_parser_item.g.sp 211 fun x => R.parse_parser_item G x) (.r (.l (.r (.l (.l (.piece [(.nrm, ⟨[(8, vb)], rg 9 6, [], []⟩)] .none)))))) := eqn Tryz.f211
theorem kG.eq : Eqn (Q [dA.spec, dE.spec, dC.spec, cB.spec, dc.spec, dP.spec, et.spec, eF.spec]) kG.spec (.r (.r (.l (.l (.two (.piece [(.nrm, ⟨[(10, vb)], rg 11 14, [], []⟩)] .none) (.r (.l (.piece [(.nrm, ⟨[(26, vb)], rg 27 6, [], []⟩)] .none)))))))) := eqn Tryz.f90
theorem jN.eq : Eqn (Q [lG.spec, dA.spec, dE.spec, dC.spec, dc.spec]) jN.spec (.r (.r (.l (.l (.two (.piece [(.nrm, ⟨[(10, vb)], rg 11 21, [], []⟩)] .none) (.r (.r (.r (.r (.r (.l (.piece [(.nrm, ⟨[(41, vb)], rg 42 8, [], []⟩)] .none)))))))))))) := eqn Tryz.f86
theorem ez.eq : Eqn (Q [cY.spec, eE.spec, aO.spec, eC.spec, cz.spec]) ez.spec (.r (.l (.l (.r (.r (.r (.r (.l (.piece [(.nrm, ⟨[(37, vb)], rg 38 6, [], []⟩)] .none))))))))) := eqn Tryz.f400
theorem eI.eq : Eqn (Q []) eI.spec (.r (.r (.l (.r (.l (.loop ⟨[(5, vi)], [4] ++ rg 11 15, [], []⟩ [(.ext 0, ⟨[], [4, 5] ++ rg 11 15, [], []⟩), (.ret, ⟨[(4, vb)], [5] ++ rg 11 15, [], []⟩)] .none)))))) := eqn Tryz.f30
theorem iG.eq : Eqn (Q [dA.spec, iE.spec, dP.spec, bQ.spec]) iG.spec (.r (.r (.l (.r (.l (.r (.r (.l (.piece [(.nrm, ⟨[(10, vb)], [11, 12], [], []⟩)] .none))))))))) := eqn Tryz.f57
theorem iB.eq : Eqn (Q [iY.spec, fO.spec, jV.spec, fS.spec]) iB.spec (.r (.l (.l (.l (.piece [(.nrm, ⟨[(8, vb)], rg 9 8, [], []⟩)] .none))))) := eqn Tryz.f92
theorem jq.eq : Eqn (Q [eZ.spec]) jq.spec (.r (.r (.l (.piece [(.nrm, ⟨[(3, (false, (.frz (.int .u64))))], rg 6 4, [], []⟩)] .none)))) := eqn Tryz.f60
theorem gV.eq : Eqn (Q []) gV.spec (.r (.l (.r (.l (.r (.r (.l (.piece [(.nrm, ⟨[(15, vb)], rg 16 4, [], []⟩)] .none)))))))) := eqn Tryz.f36
theorem cX.eq : Eqn (Q [aU.spec]) cX.spec .none := eqn Tryz.f216
theorem dO.eq : Eqn (Q [gY 70 (.int .u16), bT.spec]) dO.spec .none := eqn Tryz.f391
theorem bE.eq : Eqn (Q [gF.spec]) bE.spec .none := eqn Tryz.f236
theorem aH.eq : Eqn (Q [bA.spec]) aH.spec .none := eqn Tryz.f241
theorem cU.eq : Eqn (Q [ae.spec]) cU.spec .none := eqn Tryz.f144
theorem ga.eq : Eqn (Q [bl.spec]) ga.spec .none := eqn Tryz.f118
theorem cF.eq : Eqn (Q [cK.spec]) cF.spec .none := eqn Tryz.f85
theorem bF.eq : Eqn (Q [fa.spec]) bF.spec .none := eqn Tryz.f46
theorem bL.eq : Eqn (Q []) bL.spec .none := eqn Tryz.f197
theorem eu.eq : Eqn (Q []) eu.spec .none := eqn Tryz.f121
theorem gX.eq : Eqn (Q []) gX.spec .none := eqn Tryz.f156
theorem cK.eq : Eqn (Q []) cK.spec .none := eqn Tryz.f27
end Go.Mach
set_option linter.unusedVariables false
set_option maxRecDepth 100000
namespace Go.Mach
open Go.Proofs
theorem parse_parser_either.eq (G : bJ) : Eqn (Q [ai.spec, parse_parser_both.spec G, parse_parser_level.spec G, bA.spec, aH.spec]) (parse_parser_either.g.sp 318 fun x => R.parse_parser_either G x) (.r (.r (.two (.r (.l (.two (.l (.loop ⟨[], rg 8 7, [(0, aF), (3, (.box (.frz (.rose aB))))], []⟩ [(.ext 0, ⟨[], rg 8 7, [(0, aF), (3, (.box (.frz (.rose aB))))], []⟩)] .none)) (.l (.piece [(.nrm, ⟨[], rg 15 6, [], []⟩)] (.l (.piece [(.nrm, ⟨[(20, vb)], rg 15 5, [], []⟩)] .none))))))) (.r (.l (.l (.loop ⟨[], rg 27 9, [(0, aF), (3, (.box (.frz (.rose aB))))], []⟩ [(.ext 2, ⟨[], rg 27 9, [(0, aF), (3, (.box (.frz (.rose aB))))], []⟩)] .none))))))) := eqn Tryz.f318
theorem eD.eq : Eqn (Q [iw.spec, ca.spec, bE.spec, fx.spec]) eD.spec (.r (.r (.two (.l (.loop ⟨[(4, vi)], [3, 5, 6] ++ rg 19 52, [], []⟩ [(.ext 0, ⟨[], rg 3 4 ++ rg 19 52, [], []⟩), (.ret, ⟨[(3, vi)], [4, 5, 6] ++ rg 19 52, [(0, bW), (1, (.box (.seq .i (.seq .s (.seq (.own .h) (.seq (.frz aG) (.seq (.seq .b (.own .w)) (.seq .i .b))))))))], []⟩)] (.r (.l (.l (.r (.l (.l (.piece [(.nrm, ⟨[(56, vb)], rg 42 14, [], []⟩)] .none))))))))) (.r (.l (.l (.piece [(.nrm, ⟨[(101, vb)], rg 81 20, [], []⟩)] .none))))))) := eqn Tryz.f237
theorem gf.eq : Eqn (Q [jB.spec, iQ.spec, hJ.spec]) gf.spec (.r (.r (.r (.two (.l (.piece [(.nrm, ⟨[(36, vb)], rg 25 11, [], []⟩)] .none)) (.two (.r (.l (.loop ⟨[(40, vi)], [4, 8, 9, 10] ++ rg 41 23, [], []⟩ [(.ext 0, ⟨[], [4, 8, 9, 10] ++ rg 40 24, [], []⟩), (.ret, ⟨[(4, vb)], [8, 9, 10] ++ rg 40 24, [], []⟩)] (.r (.r (.l (.l (.r (.r (.l (.piece [(.nrm, ⟨[(10, vi)], rg 46 8, [], []⟩)] .none))))))))))) (.l (.l (.r (.r (.l (.piece [(.nrm, ⟨[(90, vb)], rg 91 9, [], []⟩)] .none))))))))))) := eqn Tryz.f40
theorem du.eq : Eqn (Q [jA.spec, ir.spec, ca.spec]) du.spec (.r (.l (.r (.r (.l (.l (.loop ⟨[(5, vb)], [2, 3, 4] ++ rg 6 67, [(0, bW)], []⟩ [(.ext 0, ⟨[(5, vb)], [2, 3, 4] ++ rg 6 67, [(0, bW)], []⟩)] (.r (.l (.r (.l (.l (.two (.piece [(.nrm, ⟨[(30, vb)], rg 31 6, [], []⟩)] .none) (.two (.l (.piece [(.nrm, ⟨[(5, vb)], rg 37 5, [], []⟩)] .none)) (.l (.piece [(.nrm, ⟨[(49, vb)], rg 50 6, [], []⟩)] .none)))))))))))))))) := eqn Tryz.f207
theorem gq.eq : Eqn (Q [dz.spec]) gq.spec (.r (.r (.r (.l (.r (.l (.loop ⟨[(5, (false, (.own .h))), (6, vi)], [2, 3, 4, 7, 8] ++ rg 12 43, [], []⟩ [(.ext 0, ⟨[(5, (false, (.own .h)))], [2, 3, 4, 6, 7, 8] ++ rg 12 43, [], []⟩), (.ret, ⟨[(2, (false, (.own .h))), (3, vi), (4, vi)], rg 5 4 ++ rg 12 43, [], []⟩)] (.r (.l (.r (.l (.l (.l (.piece [(.nrm, ⟨[(36, vb)], rg 37 6, [], []⟩)] .none)))))))))))))) := eqn Tryz.f126
theorem gD.eq : Eqn (Q []) gD.spec (.r (.r (.l (.r (.l (.loop ⟨[(15, vi)], [4, 5, 7] ++ rg 16 29, [(2, (.own .i))], []⟩ [(.ext 0, ⟨[], [4, 5, 7] ++ rg 15 30, [(2, (.own .i))], []⟩)] (.r (.r (.l (.l (.r (.r (.r (.l (.loop ⟨[(31, vi)], [7] ++ rg 32 12, [(2, (.own .i))], []⟩ [(.ext 2, ⟨[], [7] ++ rg 31 13, [(2, (.own .i))], []⟩)] .none))))))))))))))) := eqn Tryz.f42
theorem cO.eq : Eqn (Q [aY.spec, parse_parser_item.spec (ch fuel), aI.spec]) cO.spec (.r (.r (.l (.l (.loop ⟨[], rg 5 11, [(0, aF), (3, (.box l7))], [2]⟩ [(.ext 0, ⟨[], rg 5 11, [(0, aF), (3, (.box l7))], [2]⟩)] .none))))) := eqn Tryz.f179
theorem gB.eq : Eqn (Q [gi.spec, eO.spec, gg.spec]) gB.spec (.r (.r (.two (.l (.piece [(.nrm, ⟨[(31, vb)], rg 19 12, [], []⟩)] .none)) (.l (.r (.l (.r (.r (.r (.r (.l (.piece [(.nrm, ⟨[(64, vb)], [65, 66], [], []⟩)] .none)))))))))))) := eqn Tryz.f78
theorem parse_parser_cond.eq (G : bJ) : Eqn (Q [aY.spec, parse_parser_assign.spec G, parse_parser_either.spec G, aP.spec, aH.spec]) (parse_parser_cond.g.sp 301 fun x => R.parse_parser_cond G x) .none := eqn Tryz.f301
theorem fV.eq : Eqn (Q []) fV.spec (.r (.r (.l (.r (.l (.loop ⟨[(5, (false, (.own .s))), (15, vi)], [7] ++ rg 16 13, [], []⟩ [(.ext 0, ⟨[(5, (false, (.own .s)))], [7] ++ rg 15 14, [], []⟩)] .none)))))) := eqn Tryz.f186
theorem parse_parser_simple.eq (G : bJ) : Eqn (Q [aY.spec, parse_parser_assign.spec G, bc.spec]) (parse_parser_simple.g.sp 281 fun x => R.parse_parser_simple G x) .none := eqn Tryz.f281
theorem b8.eq : Eqn (Q [bF.spec, eN.spec]) b8.spec (.r (.r (.l (.r (.l (.r (.r (.l (.piece [(.nrm, ⟨[(13, vb)], [14, 15], [], []⟩)] .none))))))))) := eqn Tryz.f26
theorem eV.eq : Eqn (Q []) eV.spec (.r (.l (.r (.l (.r (.r (.l (.piece [(.nrm, ⟨[(7, vb)], [8, 9], [], []⟩)] .none)))))))) := eqn Tryz.f130
theorem aw.eq : Eqn (Q [cg.spec]) aw.spec .none := eqn Tryz.f236
theorem ff.eq : Eqn (Q [di.spec, gQ.spec, gq.spec]) ff.spec .none := eqn Tryz.f71
theorem cE.eq : Eqn (Q [cQ.spec]) cE.spec .none := eqn Tryz.f424
theorem jO.eq : Eqn (Q [aN.spec, eV.spec]) jO.spec .none := eqn Tryz.f302
theorem iz.eq : Eqn (Q [eZ.spec, cC.spec, eP.spec]) iz.spec .none := eqn Tryz.f56
theorem il.eq : Eqn (Q [cR.spec, bt.spec]) il.spec .none := eqn Tryz.f47
theorem dq.eq : Eqn (Q [cJ.spec]) dq.spec .none := eqn Tryz.f83
theorem ah.eq : Eqn (Q []) ah.spec .none := eqn Tryz.f279
theorem dS.eq : Eqn (Q []) dS.spec .none := eqn Tryz.f224
theorem dp.eq : Eqn (Q []) dp.spec .none := eqn Tryz.f398
theorem aY.eq : Eqn (Q []) aY.spec .none := eqn Tryz.f209
theorem jD.eq : Eqn (Q []) jD.spec .none := eqn Tryz.f373
theorem eY.eq : Eqn (Q []) eY.spec .none := eqn Tryz.f55
end Go.Mach
set_option linter.unusedVariables false
set_option maxRecDepth 100000
namespace Go.Mach
open Go.Proofs
theorem hJ.eq : Eqn (Q [fT.spec]) hJ.spec (.r (.l (.r (.l (.two (.piece [(.nrm, ⟨[(7, vb)], [8, 9], [], []⟩)] .none) (.r (.two (.piece [(.nrm, ⟨[(10, vb)], rg 11 5, [], []⟩)] .none) (.r (.two (.piece [(.nrm, ⟨[(17, vb)], [18, 19], [], []⟩)] .none) (.r (.two (.piece [(.nrm, ⟨[(21, vb)], [22, 23], [], []⟩)] .none) (.r (.r (.r (.r (.r (.r (.r (.r (.r (.r (.r (.r (.r (.two (.piece [(.nrm, ⟨[(50, vb)], [51, 52], [], []⟩)] .none) (.r (.r (.r (.r (.r (.r (.r (.two (.piece [(.nrm, ⟨[(63, vb)], [64, 65], [], []⟩)] .none) (.r (.two (.piece [(.nrm, ⟨[(67, vb)], [68, 69, 70], [], []⟩)] .none) (.r (.r (.r (.r (.r (.l (.piece [(.nrm, ⟨[(78, vb)], [79, 80], [], []⟩)] .none)))))))))))))))))))))))))))))))))))))))))) := eqn Tryz.f73
theorem fj.eq : Eqn (Q [cJ.spec, ay.spec, iB.spec, jC.spec]) fj.spec (.r (.two (.l (.two (.piece [(.nrm, ⟨[(15, vb)], rg 16 8, [], []⟩)] .none) (.r (.two (.piece [(.nrm, ⟨[(25, vb)], rg 26 8, [], []⟩)] .none) (.two (.l (.piece [(.nrm, ⟨[], [34, 35, 36], [(0, (.box (.frz aA))), (1, (.box (.frz aA)))], []⟩)] .none)) (.l (.piece [(.nrm, ⟨[(45, vb)], rg 46 18, [], []⟩)] .none))))))) (.r (.r (.r (.r (.l (.piece [(.nrm, ⟨[], [83, 84, 85], [(3, (.box (.frz aA))), (4, (.box (.frz aA)))], []⟩)] .none)))))))) := eqn Tryz.f50
theorem parse_parser_assign.eq (G : bJ) : Eqn (Q [eK.spec, ai.spec, ah.spec, dJ.spec, parse_parser_assign.spec G, parse_parser_body.spec G, parse_parser_cond.spec G, aI.spec, cc.spec, jO.spec, eo.spec]) (parse_parser_assign.g.sp 273 fun x => R.parse_parser_assign G x) (.r (.two (.r (.l (.piece [(.nrm, ⟨[(21, vb)], rg 8 13, [], []⟩)] .none))) (.r (.r (.r (.l (.l (.piece [(.nrm, ⟨[(53, vb)], rg 45 8, [], []⟩)] .none)))))))) := eqn Tryz.f273
theorem kJ.eq : Eqn (Q [gN.spec, cC.spec, eP.spec]) kJ.spec (.r (.r (.r (.l (.r (.l (.loop ⟨[(26, vi)], rg 9 5 ++ rg 27 45, [(7, (.own .w))], []⟩ [(.ext 0, ⟨[], rg 9 5 ++ rg 26 46, [(7, (.own .w))], []⟩)] (.r (.r (.l (.l (.r (.r (.l (.r (.l (.loop ⟨[(11, (false, (.frz (.int .u64)))), (33, vi)], [12, 13] ++ rg 34 29, [(7, (.own .w))], []⟩ [(.ext 2, ⟨[(11, (false, (.frz (.int .u64))))], [12, 13] ++ rg 33 30, [(7, (.own .w))], []⟩)] .none))))))))))))))))) := eqn Tryz.f151
theorem kO.eq : Eqn (Q [dA.spec, gX.spec, iE.spec, dE.spec, dC.spec, cB.spec, dc.spec, dP.spec, et.spec, eF.spec]) kO.spec (.r (.r (.r (.l (.l (.two (.piece [(.nrm, ⟨[(16, vb)], rg 17 22, [], []⟩)] .none) (.r (.two (.piece [(.nrm, ⟨[(40, vb)], rg 41 6, [], []⟩)] .none) (.r (.l (.piece [(.nrm, ⟨[(49, vb)], rg 50 6, [], []⟩)] .none))))))))))) := eqn Tryz.f89
theorem parse_parser_member.eq (G : bJ) : Eqn (Q [aY.spec, ai.spec, parse_parser_assign.spec G, aP.spec, aI.spec, aH.spec]) (parse_parser_member.g.sp 405 fun x => R.parse_parser_member G x.1 x.2) (.r (.l (.l (.r (.l (.r (.l (.l (.piece [(.nrm, ⟨[(19, vb)], rg 12 7, [], []⟩)] .none))))))))) := eqn Tryz.f405
theorem aQ.eq : Eqn (Q [db.spec]) aQ.spec (.r (.l (.r (.l (.loop ⟨[(8, vi)], [4, 5] ++ rg 9 10, [], []⟩ [(.ext 0, ⟨[], [4, 5] ++ rg 8 11, [], []⟩), (.ret, ⟨[(4, vi)], [5] ++ rg 8 11, [], []⟩)] .none))))) := eqn Tryz.f285
theorem fK.eq : Eqn (Q []) fK.spec (.r (.l (.l (.loop ⟨[(0, (false, (.frz (.list (.int .u32)))))], rg 3 17, [], []⟩ [(.ext 0, ⟨[(0, (false, (.frz (.list (.int .u32)))))], rg 3 17, [], []⟩)] (.l (.l (.piece [(.nrm, ⟨[(14, vb)], rg 3 11, [], []⟩)] .none))))))) := eqn Tryz.f124
theorem cf.eq : Eqn (Q [gR.spec, gV.spec, eU.spec]) cf.spec (.r (.two (.l (.piece [(.nrm, ⟨[(50, vb)], rg 3 47, [], []⟩)] .none)) (.l (.r (.l (.l (.piece [(.nrm, ⟨[(53, vb)], [54, 55], [], []⟩)] .none))))))) := eqn Tryz.f39
theorem ec.eq : Eqn (Q [cu.spec, aD.spec]) ec.spec (.r (.r (.l (.piece [(.nrm, ⟨[(10, vi)], rg 18 8, [], []⟩)] (.l (.piece [(.nrm, ⟨[(25, vb)], rg 18 7, [], []⟩)] .none)))))) := eqn Tryz.f416
theorem eval_run_binary.eq (G : bI) : Eqn (Q [eval_run_expression.spec G, cI.spec, fF.spec]) (eval_run_binary.g.sp 324 fun x => R.eval_run_binary G x.1 x.2.1 x.2.2) .none := eqn Tryz.f324
theorem dV.eq : Eqn (Q [cu.spec, bk.spec, dO.spec, ae.spec, aO.spec, aD.spec]) dV.spec .none := eqn Tryz.f368
theorem dt.eq : Eqn (Q [gY 70 (.int .u16), bL.spec, cx.spec, dH.spec]) dt.spec .none := eqn Tryz.f218
theorem iM.eq : Eqn (Q []) iM.spec (.r (.l (.r (.l (.l (.piece [(.nrm, ⟨[(4, vb)], rg 5 33, [], []⟩)] .none)))))) := eqn Tryz.f337
theorem cY.eq : Eqn (Q [cy.spec, bH.spec]) cY.spec .none := eqn Tryz.f357
theorem fm.eq : Eqn (Q [dp.spec, bH.spec]) fm.spec .none := eqn Tryz.f395
theorem cV.eq : Eqn (Q [cR.spec, ae.spec]) cV.spec .none := eqn Tryz.f355
theorem fc.eq : Eqn (Q [aN.spec]) fc.spec .none := eqn Tryz.f189
theorem gN.eq : Eqn (Q [eZ.spec, fK.spec]) gN.spec .none := eqn Tryz.f198
theorem cQ.eq : Eqn (Q []) cQ.spec .none := eqn Tryz.f435
theorem er.eq : Eqn (Q [cK.spec]) er.spec .none := eqn Tryz.f95
theorem ea.eq : Eqn (Q [dA.spec]) ea.spec .none := eqn Tryz.f105
theorem eP.eq : Eqn (Q [gR.spec]) eP.spec .none := eqn Tryz.f99
theorem fH.eq : Eqn (Q []) fH.spec .none := eqn Tryz.f356
theorem fB.eq : Eqn (Q []) fB.spec .none := eqn Tryz.f35
theorem dc.eq : Eqn (Q []) dc.spec .none := eqn Tryz.f106
end Go.Mach
set_option linter.unusedVariables false
set_option maxRecDepth 100000
namespace Go.Mach
open Go.Proofs
theorem eval_run_does.eq (G : bI) : Eqn (Q [gG.spec, cR.spec, bt.spec, ay.spec, bk.spec, dx.spec, aO.spec, dU.spec, eval_run_host.spec G, cI.spec, aD.spec, bf.spec, cq.spec, bn.spec]) (eval_run_does.g.sp 365 fun x => R.eval_run_does G x.1 x.2.1 x.2.2.1 x.2.2.2) (.r (.r (.l (.r (.l (.two (.piece [(.nrm, ⟨[(18, vb)], [19, 20], [], []⟩)] .none) (.r (.r (.r (.r (.r (.r (.r (.r (.r (.r (.two (.l (.l (.piece [(.nrm, ⟨[(79, vb)], rg 67 12, [], []⟩)] .none))) (.r (.r (.r (.r (.r (.r (.r (.r (.l (.piece [(.nrm, ⟨[(134, vb)], rg 135 5, [], []⟩)] .none))))))))))))))))))))))))))) := eqn Tryz.f365
theorem parse_parser_primary.eq (G : bJ) : Eqn (Q [aY.spec, ai.spec, parse_parser_assign.spec G, parse_parser_list.spec G, a8.spec, aP.spec, aI.spec, bA.spec]) (parse_parser_primary.g.sp 425 fun x => R.parse_parser_primary G x) (.r (.r (.r (.r (.r (.two (.r (.l (.r (.r (.r (.r (.r (.r (.r (.r (.r (.r (.r (.r (.r (.l (.r (.l (.piece [(.nrm, ⟨[(4, vs)], rg 71 6, [(0, aF)], []⟩)] .none))))))))))))))))))) (.r (.l (.l (.piece [(.nrm, ⟨[(99, vb)], rg 94 5, [], []⟩)] .none)))))))))) := eqn Tryz.f425
theorem eval_run_assign.eq (G : bI) : Eqn (Q [eval_run_expression.spec G, fi.spec, eval_run_parts.spec G, aD.spec, fF.spec]) (eval_run_assign.g.sp 326 fun x => R.eval_run_assign G x.1 x.2.1 x.2.2) (.r (.r (.r (.r (.r (.two (.piece [(.nrm, ⟨[], [39, 40], [], []⟩)] .none) (.r (.l (.piece [(.nrm, ⟨[], [13, 14] ++ rg 66 11 ++ [82], [(11, (.box (.frz aA)))], []⟩), (.ret, ⟨[(7, vi)], [13, 14] ++ rg 66 16, [(2, aM), (5, (.box (.frz aA)))], [14, 15]⟩)] .none))))))))) := eqn Tryz.f326
theorem jR.eq : Eqn (Q []) jR.spec (.r (.r (.r (.l (.r (.l (.loop ⟨[(5, (false, (.own .w))), (6, (false, (.frz (.int .u64)))), (13, vi)], [7] ++ rg 14 32, [], []⟩ [(.ext 0, ⟨[(5, (false, (.own .w))), (6, (false, (.frz (.int .u64))))], [7] ++ rg 13 33, [], []⟩)] (.r (.r (.l (.l (.r (.two (.piece [(.nrm, ⟨[(6, (false, (.frz (.int .u64))))], rg 16 11, [], []⟩)] .none) (.l (.piece [(.nrm, ⟨[(6, (false, (.frz (.int .u64))))], rg 27 11, [], []⟩)] .none))))))))))))))) := eqn Tryz.f199
theorem eval_run_called.eq (G : bI) : Eqn (Q [bh.spec, eval_run_expression.spec G, eQ.spec, eval_run_parts.spec G]) (eval_run_called.g.sp 345 fun x => R.eval_run_called G x.1 x.2.1 x.2.2) (.r (.r (.two (.l (.piece [(.nrm, ⟨[(30, vb)], rg 23 7, [], []⟩)] .none)) (.r (.r (.l (.piece [(.nrm, ⟨[(14, vi)], rg 54 8, [(2, aM), (15, (.box (.frz aA)))], [11, 12]⟩)] .none))))))) := eqn Tryz.f345
theorem iD.eq : Eqn (Q [du.spec, dW.spec]) iD.spec (.r (.r (.r (.r (.l (.loop ⟨[(6, (false, (.own (.frz bV))))], [2, 3, 4] ++ rg 7 4 ++ rg 17 41, [(0, (.box (.frz iF)))], []⟩ [(.ret, ⟨[(2, (false, (.own (.frz bV)))), (3, vi), (4, vi)], rg 6 5 ++ rg 17 41, [], [0]⟩)] .none)))))) := eqn Tryz.f178
theorem ca.eq : Eqn (Q []) ca.spec (.r (.l (.r (.l (.loop ⟨[(8, vi)], [4, 5] ++ rg 9 34, [], []⟩ [(.ext 0, ⟨[], [4, 5] ++ rg 8 35, [], []⟩), (.ret, ⟨[(4, vb)], [5] ++ rg 8 35, [], []⟩)] (.r (.r (.l (.l (.r (.l (.piece [(.nrm, ⟨[(41, vb)], rg 11 30, [], []⟩)] .none)))))))))))) := eqn Tryz.f231
theorem bP.eq : Eqn (Q [bE.spec]) bP.spec (.r (.r (.l (.l (.loop ⟨[(5, (false, (.own .y)))], rg 6 24, [(0, bW)], []⟩ [(.ext 0, ⟨[(5, (false, (.own .y)))], rg 6 24, [(0, bW)], []⟩)] .none))))) := eqn Tryz.f265
theorem cp.eq : Eqn (Q []) cp.spec (.r (.two (.piece [(.nrm, ⟨[], [5, 6, 7], [], []⟩)] .none) (.r (.l (.r (.l (.loop ⟨[(3, vi), (4, vi)], rg 12 12, [], []⟩ [(.ext 0, ⟨[(3, vi)], [4] ++ rg 12 12, [], []⟩)] .none))))))) := eqn Tryz.f41
theorem dw.eq : Eqn (Q [cu.spec, ep.spec, bk.spec, eT.spec, ae.spec, aO.spec, fD.spec, aD.spec]) dw.spec .none := eqn Tryz.f371
theorem dm.eq : Eqn ({ P := Tryz.prog, specs := [], ety := nV Tryz.prog owned, inls := [xA 147 (me.env Tryz.prog) Tryz.f147 .none] } : Env) dm.spec .none := eqn Tryz.f393
theorem iC.eq : Eqn (Q [jN.spec, kO.spec, kM.spec, kG.spec, kQ.spec, ig.spec, cF.spec, dq.spec]) iC.spec .none := eqn Tryz.f48
theorem fe.eq : Eqn (Q [cy.spec]) fe.spec (.r (.r (.l (.l (.piece [(.nrm, ⟨[(13, vb)], rg 5 8, [], []⟩)] .none))))) := eqn Tryz.f348
theorem bB.eq : Eqn (Q [da.spec]) bB.spec .none := eqn Tryz.f236
theorem i6.eq : Eqn (Q [gK.spec, ea.spec, dc.spec, bQ.spec]) i6.spec .none := eqn Tryz.f58
theorem dH.eq : Eqn (Q [gY 109 (.int .u32), gY 70 (.int .u16)]) dH.spec .none := eqn Tryz.f217
theorem gp.eq : Eqn (Q [fm.spec, dD.spec]) gp.spec .none := eqn Tryz.f370
theorem cC.eq : Eqn (Q [gR.spec, gY 109 (.int .u32)]) cC.spec .none := eqn Tryz.f98
theorem az.eq : Eqn (Q [bL.spec]) az.spec .none := eqn Tryz.f147
theorem bw.eq : Eqn (Q []) bw.spec .none := eqn Tryz.f411
theorem ei.eq : Eqn (Q [eY.spec]) ei.spec .none := eqn Tryz.f148
theorem bz.eq : Eqn (Q []) bz.spec .none := eqn Tryz.f11
theorem eS.eq : Eqn (Q []) eS.spec .none := eqn Tryz.f397
theorem gz.eq : Eqn (Q []) gz.spec .none := eqn Tryz.f203
theorem iA.eq : Eqn (Q []) iA.spec .none := eqn Tryz.f94
theorem iE.eq : Eqn (Q []) iE.spec .none := eqn Tryz.f101
end Go.Mach
