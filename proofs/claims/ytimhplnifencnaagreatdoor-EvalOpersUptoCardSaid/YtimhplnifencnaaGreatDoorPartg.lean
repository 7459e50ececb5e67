/-
  Proved here: the law renlaw12.EvalOpers returns true for every input of the stated bulk and leaves its arguments as they were; no further condition.
  By an AI agent; no person has read it.
-/
import Derived.Test.YtimhplnifencnaaGreatDoorPartf
import Derived.KernelRfl
import Derived.Test.YtimhplnifencnaaGreatDoorProg
set_option linter.all false
set_option linter.deprecated false
set_option linter.unusedVariables false
set_option maxRecDepth 100000
namespace Go.Mach
open Go.Proofs
theorem parse_parser_either.eq (G : bK) : Eqn (Q [ak.spec, parse_parser_both.spec G, parse_parser_level.spec G, bA.spec, aI.spec]) (parse_parser_either.g.sp 318 fun x => R.parse_parser_either G x) (.r (.r (.two (.r (.l (.two (.l (.loop ⟨[], rg 8 7, [(0, aF), (3, (.box (.frz (.rose aB))))], []⟩ [(.ext 0, ⟨[], rg 8 7, [(0, aF), (3, (.box (.frz (.rose aB))))], []⟩)] .none)) (.l (.piece [(.nrm, ⟨[], rg 15 6, [], []⟩)] (.l (.piece [(.nrm, ⟨[(20, vb)], rg 15 5, [], []⟩)] .none))))))) (.r (.l (.l (.loop ⟨[], rg 27 9, [(0, aF), (3, (.box (.frz (.rose aB))))], []⟩ [(.ext 2, ⟨[], rg 27 9, [(0, aF), (3, (.box (.frz (.rose aB))))], []⟩)] .none))))))) := eqn Tryz.f318
theorem dy.eq : Eqn (Q [jE.spec, cY.spec, bE.spec, fy.spec]) dy.spec (.r (.r (.two (.l (.loop ⟨[(4, vi)], [3, 5, 6] ++ rg 19 52, [], []⟩ [(.ext 0, ⟨[], rg 3 4 ++ rg 19 52, [], []⟩), (.ret, ⟨[(3, vi)], [4, 5, 6] ++ rg 19 52, [(0, bY), (1, (.box (.seq .i (.seq .s (.seq (.own .h) (.seq (.frz aH) (.seq (.seq .b (.own .w)) (.seq .i .b))))))))], []⟩)] (.r (.l (.l (.r (.l (.l (.piece [(.nrm, ⟨[(56, vb)], rg 42 14, [], []⟩)] .none))))))))) (.r (.l (.l (.piece [(.nrm, ⟨[(101, vb)], rg 81 20, [], []⟩)] .none))))))) := eqn Tryz.f237
theorem gu.eq : Eqn (Q [jO.spec, ia.spec, iC.spec]) gu.spec (.r (.r (.r (.two (.l (.piece [(.nrm, ⟨[(36, vb)], rg 25 11, [], []⟩)] .none)) (.two (.r (.l (.loop ⟨[(40, vi)], [4, 8, 9, 10] ++ rg 41 23, [], []⟩ [(.ext 0, ⟨[], [4, 8, 9, 10] ++ rg 40 24, [], []⟩), (.ret, ⟨[(4, vb)], [8, 9, 10] ++ rg 40 24, [], []⟩)] (.r (.r (.l (.l (.r (.r (.l (.piece [(.nrm, ⟨[(10, vi)], rg 46 8, [], []⟩)] .none))))))))))) (.l (.l (.r (.r (.l (.piece [(.nrm, ⟨[(90, vb)], rg 91 9, [], []⟩)] .none))))))))))) := eqn Tryz.f40
theorem dx.eq : Eqn (Q [jN.spec, jC.spec, cY.spec]) dx.spec (.r (.l (.r (.r (.l (.l (.loop ⟨[(5, vb)], [2, 3, 4] ++ rg 6 67, [(0, bY)], []⟩ [(.ext 0, ⟨[(5, vb)], [2, 3, 4] ++ rg 6 67, [(0, bY)], []⟩)] (.r (.l (.r (.l (.l (.two (.piece [(.nrm, ⟨[(30, vb)], rg 31 6, [], []⟩)] .none) (.two (.l (.piece [(.nrm, ⟨[(5, vb)], rg 37 5, [], []⟩)] .none)) (.l (.piece [(.nrm, ⟨[(49, vb)], rg 50 6, [], []⟩)] .none)))))))))))))))) := eqn Tryz.f207
theorem iD.eq : Eqn (Q [dt.spec]) iD.spec (.r (.r (.r (.l (.r (.l (.loop ⟨[(5, (false, (.own .h))), (6, vi)], [2, 3, 4, 7, 8] ++ rg 12 43, [], []⟩ [(.ext 0, ⟨[(5, (false, (.own .h)))], [2, 3, 4, 6, 7, 8] ++ rg 12 43, [], []⟩), (.ret, ⟨[(2, (false, (.own .h))), (3, vi), (4, vi)], rg 5 4 ++ rg 12 43, [], []⟩)] (.r (.l (.r (.l (.l (.l (.piece [(.nrm, ⟨[(36, vb)], rg 37 6, [], []⟩)] .none)))))))))))))) := eqn Tryz.f126
theorem gG.eq : Eqn (Q []) gG.spec (.r (.r (.l (.r (.l (.loop ⟨[(15, vi)], [4, 5, 7] ++ rg 16 29, [(2, (.own .i))], []⟩ [(.ext 0, ⟨[], [4, 5, 7] ++ rg 15 30, [(2, (.own .i))], []⟩)] (.r (.r (.l (.l (.r (.r (.r (.l (.loop ⟨[(31, vi)], [7] ++ rg 32 12, [(2, (.own .i))], []⟩ [(.ext 2, ⟨[], [7] ++ rg 31 13, [(2, (.own .i))], []⟩)] .none))))))))))))))) := eqn Tryz.f42
theorem cO.eq : Eqn (Q [ae.spec, parse_parser_item.spec (ch fuel), aK.spec]) cO.spec (.r (.r (.l (.l (.loop ⟨[], rg 5 11, [(0, aF), (3, (.box mD))], [2]⟩ [(.ext 0, ⟨[], rg 5 11, [(0, aF), (3, (.box mD))], [2]⟩)] .none))))) := eqn Tryz.f179
theorem gC.eq : Eqn (Q [gz.spec, eM.spec, gv.spec]) gC.spec (.r (.r (.two (.l (.piece [(.nrm, ⟨[(31, vb)], rg 19 12, [], []⟩)] .none)) (.l (.r (.l (.r (.r (.r (.r (.l (.piece [(.nrm, ⟨[(64, vb)], [65, 66], [], []⟩)] .none)))))))))))) := eqn Tryz.f78
theorem parse_parser_cond.eq (G : bK) : Eqn (Q [ae.spec, parse_parser_assign.spec G, parse_parser_either.spec G, aS.spec, aI.spec]) (parse_parser_cond.g.sp 301 fun x => R.parse_parser_cond G x) .none := eqn Tryz.f301
theorem fX.eq : Eqn (Q []) fX.spec (.r (.r (.l (.r (.l (.loop ⟨[(5, (false, (.own .s))), (15, vi)], [7] ++ rg 16 13, [], []⟩ [(.ext 0, ⟨[(5, (false, (.own .s)))], [7] ++ rg 15 14, [], []⟩)] .none)))))) := eqn Tryz.f186
theorem parse_parser_simple.eq (G : bK) : Eqn (Q [ae.spec, parse_parser_assign.spec G, bj.spec]) (parse_parser_simple.g.sp 281 fun x => R.parse_parser_simple G x) .none := eqn Tryz.f281
theorem cA.eq : Eqn (Q [bH.spec, eK.spec]) cA.spec (.r (.r (.l (.r (.l (.r (.r (.l (.piece [(.nrm, ⟨[(13, vb)], [14, 15], [], []⟩)] .none))))))))) := eqn Tryz.f26
theorem eU.eq : Eqn (Q []) eU.spec (.r (.l (.r (.l (.r (.r (.l (.piece [(.nrm, ⟨[(7, vb)], [8, 9], [], []⟩)] .none)))))))) := eqn Tryz.f130
theorem aw.eq : Eqn (Q [cg.spec]) aw.spec .none := eqn Tryz.f236
theorem fg.eq : Eqn (Q [dd.spec, gT.spec, iD.spec]) fg.spec .none := eqn Tryz.f71
theorem cF.eq : Eqn (Q [cQ.spec]) cF.spec .none := eqn Tryz.f424
theorem jX.eq : Eqn (Q [aN.spec, eU.spec]) jX.spec .none := eqn Tryz.f302
theorem jI.eq : Eqn (Q [eY.spec, cD.spec, eP.spec]) jI.spec .none := eqn Tryz.f56
theorem iH.eq : Eqn (Q [cJ.spec, bg.spec]) iH.spec .none := eqn Tryz.f47
theorem dG.eq : Eqn (Q [cH.spec]) dG.spec .none := eqn Tryz.f83
theorem aj.eq : Eqn (Q []) aj.spec .none := eqn Tryz.f279
theorem cr.eq : Eqn (Q []) cr.spec .none := eqn Tryz.f224
theorem dh.eq : Eqn (Q []) dh.spec .none := eqn Tryz.f398
theorem ae.eq : Eqn (Q []) ae.spec .none := eqn Tryz.f209
theorem jM.eq : Eqn (Q []) jM.spec .none := eqn Tryz.f373
theorem eT.eq : Eqn (Q []) eT.spec .none := eqn Tryz.f55
end Go.Mach
set_option linter.unusedVariables false
set_option maxRecDepth 100000
namespace Go.Mach
open Go.Proofs
theorem iC.eq : Eqn (Q [fU.spec]) iC.spec (.r (.l (.r (.l (.two (.piece [(.nrm, ⟨[(7, vb)], [8, 9], [], []⟩)] .none) (.r (.two (.piece [(.nrm, ⟨[(10, vb)], rg 11 5, [], []⟩)] .none) (.r (.two (.piece [(.nrm, ⟨[(17, vb)], [18, 19], [], []⟩)] .none) (.r (.two (.piece [(.nrm, ⟨[(21, vb)], [22, 23], [], []⟩)] .none) (.r (.r (.r (.r (.r (.r (.r (.r (.r (.r (.r (.r (.r (.two (.piece [(.nrm, ⟨[(50, vb)], [51, 52], [], []⟩)] .none) (.r (.r (.r (.r (.r (.r (.r (.two (.piece [(.nrm, ⟨[(63, vb)], [64, 65], [], []⟩)] .none) (.r (.two (.piece [(.nrm, ⟨[(67, vb)], [68, 69, 70], [], []⟩)] .none) (.r (.r (.r (.r (.r (.l (.piece [(.nrm, ⟨[(78, vb)], [79, 80], [], []⟩)] .none)))))))))))))))))))))))))))))))))))))))))) := eqn Tryz.f73
theorem fA.eq : Eqn (Q [cH.spec, az.spec, gI.spec, iY.spec]) fA.spec (.r (.two (.l (.two (.piece [(.nrm, ⟨[(15, vb)], rg 16 8, [], []⟩)] .none) (.r (.two (.piece [(.nrm, ⟨[(25, vb)], rg 26 8, [], []⟩)] .none) (.two (.l (.piece [(.nrm, ⟨[], [34, 35, 36], [(0, (.box (.frz aA))), (1, (.box (.frz aA)))], []⟩)] .none)) (.l (.piece [(.nrm, ⟨[(45, vb)], rg 46 18, [], []⟩)] .none))))))) (.r (.r (.r (.r (.l (.piece [(.nrm, ⟨[], [83, 84, 85], [(3, (.box (.frz aA))), (4, (.box (.frz aA)))], []⟩)] .none)))))))) := eqn Tryz.f50
theorem parse_parser_assign.eq (G : bK) : Eqn (Q [eJ.spec, ak.spec, aj.spec, dJ.spec, parse_parser_assign.spec G, parse_parser_body.spec G, parse_parser_cond.spec G, aK.spec, cc.spec, jX.spec, ee.spec]) (parse_parser_assign.g.sp 273 fun x => R.parse_parser_assign G x) (.r (.two (.r (.l (.piece [(.nrm, ⟨[(21, vb)], rg 8 13, [], []⟩)] .none))) (.r (.r (.r (.l (.l (.piece [(.nrm, ⟨[(53, vb)], rg 45 8, [], []⟩)] .none)))))))) := eqn Tryz.f273
theorem jm.eq : Eqn (Q [fw.spec, cD.spec, eP.spec]) jm.spec (.r (.r (.r (.l (.r (.l (.loop ⟨[(26, vi)], rg 9 5 ++ rg 27 45, [(7, (.own .w))], []⟩ [(.ext 0, ⟨[], rg 9 5 ++ rg 26 46, [(7, (.own .w))], []⟩)] (.r (.r (.l (.l (.r (.r (.l (.r (.l (.loop ⟨[(11, (false, (.frz (.int .u64)))), (33, vi)], [12, 13] ++ rg 34 29, [(7, (.own .w))], []⟩ [(.ext 2, ⟨[(11, (false, (.frz (.int .u64))))], [12, 13] ++ rg 33 30, [(7, (.own .w))], []⟩)] .none))))))))))))))))) := eqn Tryz.f151
theorem ju.eq : Eqn (Q [cz.spec, gE.spec, iP.spec, cu.spec, dD.spec, bu.spec, dU.spec, dN.spec, eI.spec, dZ.spec]) ju.spec (.r (.r (.r (.l (.l (.two (.piece [(.nrm, ⟨[(16, vb)], rg 17 22, [], []⟩)] .none) (.r (.two (.piece [(.nrm, ⟨[(40, vb)], rg 41 6, [], []⟩)] .none) (.r (.l (.piece [(.nrm, ⟨[(49, vb)], rg 50 6, [], []⟩)] .none))))))))))) := eqn Tryz.f89
theorem parse_parser_member.eq (G : bK) : Eqn (Q [ae.spec, ak.spec, parse_parser_assign.spec G, aS.spec, aK.spec, aI.spec]) (parse_parser_member.g.sp 405 fun x => R.parse_parser_member G x.1 x.2) (.r (.l (.l (.r (.l (.r (.l (.l (.piece [(.nrm, ⟨[(19, vb)], rg 12 7, [], []⟩)] .none))))))))) := eqn Tryz.f405
theorem aT.eq : Eqn (Q [dW.spec]) aT.spec (.r (.l (.r (.l (.loop ⟨[(8, vi)], [4, 5] ++ rg 9 10, [], []⟩ [(.ext 0, ⟨[], [4, 5] ++ rg 8 11, [], []⟩), (.ret, ⟨[(4, vi)], [5] ++ rg 8 11, [], []⟩)] .none))))) := eqn Tryz.f285
theorem fG.eq : Eqn (Q []) fG.spec (.r (.l (.l (.loop ⟨[(0, (false, (.frz (.list (.int .u32)))))], rg 3 17, [], []⟩ [(.ext 0, ⟨[(0, (false, (.frz (.list (.int .u32)))))], rg 3 17, [], []⟩)] (.l (.l (.piece [(.nrm, ⟨[(14, vb)], rg 3 11, [], []⟩)] .none))))))) := eqn Tryz.f124
theorem cf.eq : Eqn (Q [gZ.spec, gd.spec, eX.spec]) cf.spec (.r (.two (.l (.piece [(.nrm, ⟨[(50, vb)], rg 3 47, [], []⟩)] .none)) (.l (.r (.l (.l (.piece [(.nrm, ⟨[(53, vb)], [54, 55], [], []⟩)] .none))))))) := eqn Tryz.f39
theorem eZ.eq : Eqn (Q [ct.spec, aE.spec]) eZ.spec (.r (.r (.l (.piece [(.nrm, ⟨[(10, vi)], rg 18 8, [], []⟩)] (.l (.piece [(.nrm, ⟨[(25, vb)], rg 18 7, [], []⟩)] .none)))))) := eqn Tryz.f416
theorem eval_run_binary.eq (G : bJ) : Eqn (Q [eval_run_expression.spec G, cI.spec, bF.spec]) (eval_run_binary.g.sp 324 fun x => R.eval_run_binary G x.1 x.2.1 x.2.2) .none := eqn Tryz.f324
theorem dQ.eq : Eqn (Q [ct.spec, bt.spec, dM.spec, ah.spec, aO.spec, aE.spec]) dQ.spec .none := eqn Tryz.f368
theorem di.eq : Eqn (Q [gn 70 (.int .u16), bN.spec, cx.spec, dE.spec]) di.spec .none := eqn Tryz.f218
theorem iV.eq : Eqn (Q []) iV.spec (.r (.l (.r (.l (.l (.piece [(.nrm, ⟨[(4, vb)], rg 5 33, [], []⟩)] .none)))))) := eqn Tryz.f337
theorem cV.eq : Eqn (Q [cw.spec, bI.spec]) cV.spec .none := eqn Tryz.f357
theorem fj.eq : Eqn (Q [dh.spec, bI.spec]) fj.spec .none := eqn Tryz.f395
theorem cZ.eq : Eqn (Q [cJ.spec, ah.spec]) cZ.spec .none := eqn Tryz.f355
theorem fb.eq : Eqn (Q [aN.spec]) fb.spec .none := eqn Tryz.f189
theorem fw.eq : Eqn (Q [eY.spec, fG.spec]) fw.spec .none := eqn Tryz.f198
theorem cQ.eq : Eqn (Q []) cQ.spec .none := eqn Tryz.f435
theorem eF.eq : Eqn (Q [cE.spec]) eF.spec .none := eqn Tryz.f95
theorem ea.eq : Eqn (Q [cz.spec]) ea.spec .none := eqn Tryz.f105
theorem eP.eq : Eqn (Q [gZ.spec]) eP.spec .none := eqn Tryz.f99
theorem fD.eq : Eqn (Q []) fD.spec .none := eqn Tryz.f356
theorem eu.eq : Eqn (Q []) eu.spec .none := eqn Tryz.f35
theorem dU.eq : Eqn (Q []) dU.spec .none := eqn Tryz.f106
end Go.Mach
set_option linter.unusedVariables false
set_option maxRecDepth 100000
namespace Go.Mach
open Go.Proofs
theorem eval_run_does.eq (G : bJ) : Eqn (Q [gq.spec, cJ.spec, bg.spec, az.spec, bt.spec, dn.spec, aO.spec, dS.spec, eval_run_host.spec G, cI.spec, aE.spec, bl.spec, cp.spec, bx.spec]) (eval_run_does.g.sp 365 fun x => R.eval_run_does G x.1 x.2.1 x.2.2.1 x.2.2.2) (.r (.r (.l (.r (.l (.two (.piece [(.nrm, ⟨[(18, vb)], [19, 20], [], []⟩)] .none) (.r (.r (.r (.r (.r (.r (.r (.r (.r (.r (.two (.l (.l (.piece [(.nrm, ⟨[(79, vb)], rg 67 12, [], []⟩)] .none))) (.r (.r (.r (.r (.r (.r (.r (.r (.l (.piece [(.nrm, ⟨[(134, vb)], rg 135 5, [], []⟩)] .none))))))))))))))))))))))))))) := eqn Tryz.f365
theorem parse_parser_primary.eq (G : bK) : Eqn (Q [ae.spec, ak.spec, parse_parser_assign.spec G, parse_parser_list.spec G, a8.spec, aS.spec, aK.spec, bA.spec]) (parse_parser_primary.g.sp 425 fun x => R.parse_parser_primary G x) (.r (.r (.r (.r (.r (.two (.r (.l (.r (.r (.r (.r (.r (.r (.r (.r (.r (.r (.r (.r (.r (.l (.r (.l (.piece [(.nrm, ⟨[(4, vs)], rg 71 6, [(0, aF)], []⟩)] .none))))))))))))))))))) (.r (.l (.l (.piece [(.nrm, ⟨[(99, vb)], rg 94 5, [], []⟩)] .none)))))))))) := eqn Tryz.f425
theorem eval_run_assign.eq (G : bJ) : Eqn (Q [eval_run_expression.spec G, fk.spec, eval_run_parts.spec G, aE.spec, bF.spec]) (eval_run_assign.g.sp 326 fun x => R.eval_run_assign G x.1 x.2.1 x.2.2) (.r (.r (.r (.r (.r (.two (.piece [(.nrm, ⟨[], [39, 40], [], []⟩)] .none) (.r (.l (.piece [(.nrm, ⟨[], [13, 14] ++ rg 66 11 ++ [82], [(11, (.box (.frz aA)))], []⟩), (.ret, ⟨[(7, vi)], [13, 14] ++ rg 66 16, [(2, aM), (5, (.box (.frz aA)))], [14, 15]⟩)] .none))))))))) := eqn Tryz.f326
theorem iz.eq : Eqn (Q []) iz.spec (.r (.r (.r (.l (.r (.l (.loop ⟨[(5, (false, (.own .w))), (6, (false, (.frz (.int .u64)))), (13, vi)], [7] ++ rg 14 32, [], []⟩ [(.ext 0, ⟨[(5, (false, (.own .w))), (6, (false, (.frz (.int .u64))))], [7] ++ rg 13 33, [], []⟩)] (.r (.r (.l (.l (.r (.two (.piece [(.nrm, ⟨[(6, (false, (.frz (.int .u64))))], rg 16 11, [], []⟩)] .none) (.l (.piece [(.nrm, ⟨[(6, (false, (.frz (.int .u64))))], rg 27 11, [], []⟩)] .none))))))))))))))) := eqn Tryz.f199
theorem eval_run_called.eq (G : bJ) : Eqn (Q [bo.spec, eval_run_expression.spec G, eN.spec, eval_run_parts.spec G]) (eval_run_called.g.sp 345 fun x => R.eval_run_called G x.1 x.2.1 x.2.2) (.r (.r (.two (.l (.piece [(.nrm, ⟨[(30, vb)], rg 23 7, [], []⟩)] .none)) (.r (.r (.l (.piece [(.nrm, ⟨[(14, vi)], rg 54 8, [(2, aM), (15, (.box (.frz aA)))], [11, 12]⟩)] .none))))))) := eqn Tryz.f345
theorem iA.eq : Eqn (Q [dx.spec, dP.spec]) iA.spec (.r (.r (.r (.r (.l (.loop ⟨[(6, (false, (.own (.frz bZ))))], [2, 3, 4] ++ rg 7 4 ++ rg 17 41, [(0, (.box (.frz iN)))], []⟩ [(.ret, ⟨[(2, (false, (.own (.frz bZ)))), (3, vi), (4, vi)], rg 6 5 ++ rg 17 41, [], [0]⟩)] .none)))))) := eqn Tryz.f178
theorem cY.eq : Eqn (Q []) cY.spec (.r (.l (.r (.l (.loop ⟨[(8, vi)], [4, 5] ++ rg 9 34, [], []⟩ [(.ext 0, ⟨[], [4, 5] ++ rg 8 35, [], []⟩), (.ret, ⟨[(4, vb)], [5] ++ rg 8 35, [], []⟩)] (.r (.r (.l (.l (.r (.l (.piece [(.nrm, ⟨[(41, vb)], rg 11 30, [], []⟩)] .none)))))))))))) := eqn Tryz.f231
theorem bQ.eq : Eqn (Q [bE.spec]) bQ.spec (.r (.r (.l (.l (.loop ⟨[(5, (false, (.own .y)))], rg 6 24, [(0, bY)], []⟩ [(.ext 0, ⟨[(5, (false, (.own .y)))], rg 6 24, [(0, bY)], []⟩)] .none))))) := eqn Tryz.f265
theorem cn.eq : Eqn (Q []) cn.spec (.r (.two (.piece [(.nrm, ⟨[], [5, 6, 7], [], []⟩)] .none) (.r (.l (.r (.l (.loop ⟨[(3, vi), (4, vi)], rg 12 12, [], []⟩ [(.ext 0, ⟨[(3, vi)], [4] ++ rg 12 12, [], []⟩)] .none))))))) := eqn Tryz.f41
theorem dm.eq : Eqn (Q [ct.spec, ej.spec, bt.spec, eR.spec, ah.spec, aO.spec, ev.spec, aE.spec]) dm.spec .none := eqn Tryz.f371
theorem de.eq : Eqn ({ P := Tryz.prog, specs := [], ety := nX Tryz.prog owned, inls := [w4 147 (me.env Tryz.prog) Tryz.f147 .none] } : Env) de.spec .none := eqn Tryz.f393
theorem gX.eq : Eqn (Q [jH.spec, ju.spec, jn.spec, jl.spec, jt.spec, iG.spec, cG.spec, dG.spec]) gX.spec .none := eqn Tryz.f48
theorem fi.eq : Eqn (Q [cw.spec]) fi.spec (.r (.r (.l (.l (.piece [(.nrm, ⟨[(13, vb)], rg 5 8, [], []⟩)] .none))))) := eqn Tryz.f348
theorem bB.eq : Eqn (Q [dV.spec]) bB.spec .none := eqn Tryz.f236
theorem jG.eq : Eqn (Q [gR.spec, ea.spec, dU.spec, bS.spec]) jG.spec .none := eqn Tryz.f58
theorem dE.eq : Eqn (Q [gn 109 (.int .u32), gn 70 (.int .u16)]) dE.spec .none := eqn Tryz.f217
theorem iI.eq : Eqn (Q [fj.spec, dB.spec]) iI.spec .none := eqn Tryz.f370
theorem cD.eq : Eqn (Q [gZ.spec, gn 109 (.int .u32)]) cD.spec .none := eqn Tryz.f98
theorem ay.eq : Eqn (Q [bN.spec]) ay.spec .none := eqn Tryz.f147
theorem b8.eq : Eqn (Q []) b8.spec .none := eqn Tryz.f411
theorem eD.eq : Eqn (Q [eT.spec]) eD.spec .none := eqn Tryz.f148
theorem bW.eq : Eqn (Q []) bW.spec .none := eqn Tryz.f11
theorem eO.eq : Eqn (Q []) eO.spec .none := eqn Tryz.f397
theorem gJ.eq : Eqn (Q []) gJ.spec .none := eqn Tryz.f203
theorem gW.eq : Eqn (Q []) gW.spec .none := eqn Tryz.f94
theorem iP.eq : Eqn (Q []) iP.spec .none := eqn Tryz.f101
end Go.Mach
set_option linter.unusedVariables false
set_option maxRecDepth 100000
namespace Go.Mach
open Go.Proofs
def parse_parser_declares.ann : Ann := (.r (.r (.two (.piece [(.nrm, ⟨[], rg 6 5, [(0, aF), (3, (.box mD))], [2]⟩)] .none) (.l (.loop ⟨[], [4] ++ rg 11 27, [(0, aF), (3, (.box mD))], [5]⟩ [(.ret, ⟨[], [4] ++ rg 11 27, [(0, aF), (1, (.box mD))], [3, 5]⟩)] (.l (.r (.two (.piece [(.nrm, ⟨[], rg 14 9, [(0, aF), (12, (.box mD))], [11]⟩)] .none) (.r (.l (.piece [(.nrm, ⟨[(36, vb)], rg 29 7, [(0, aF)], []⟩)] .none)))))))))))
theorem parse_parser_declares.eq_ (g_parse_made : type_of% R.ae) (g_parse_named : type_of% R.ak) (g_parse_parser_fine : type_of% R.bM) (g_parse_parser_name : type_of% R.a8) (g_parse_parser_need : type_of% R.aS) (g_parse_parser_take : type_of% R.aI) (G : bK) : Eqn (Q [(ae.g.sp 209 fun x => g_parse_made x.1 x.2), (ak.g.sp 272 fun x => g_parse_named x.1 x.2.1 x.2.2), parse_parser_assign.spec G, (bM.g.sp 274 fun x => g_parse_parser_fine x), (a8.g.sp 242 fun x => g_parse_parser_name x), (aS.g.sp 271 fun x => g_parse_parser_need x.1 x.2), (aI.g.sp 241 fun x => g_parse_parser_take x.1 x.2)]) (parse_parser_declares.g.sp 239 fun x => Res.given (parse_parser_declares.g.i x) (Res.bind (g_parse_made 5 ([] : List (aL aB.den))) fun r1 => Res.given (ae.g.o r1) (Res.bind (α := (aF.den × (aB.den × (List (aL aB.den))))) (Res.bind (g_parse_parser_take x [99, 111, 110, 115, 116]) fun r2 => Res.given (aI.g.o r2) (Res.br r2.1 (Res.bind (g_parse_made 6 ([] : List (aL aB.den))) fun r3 => Res.given (ae.g.o r3) (Res.ok ((r2.2, r3)))) (Res.bind (g_parse_parser_need r2.2 [108, 101, 116]) fun r4 => Res.given (aS.g.o r4) (Res.ok ((r4.2, r1)))))) fun x5 => Res.bind (Res.loop (α := (aF.den × (aB.den × (List (aL aB.den))))) (β := (aF.den × (aB.den × (List (aL aB.den))))) (fun x6 => Res.bind (g_parse_parser_name x6.1) fun r7 => Res.given (a8.g.o r7) (Res.bind (g_parse_named 7 r7.1 ([] : List (aL aB.den))) fun r8 => Res.given (ak.g.o r8) (Res.bind (α := (aF.den × (aB.den × (List (aL aB.den))))) (Res.bind (g_parse_parser_take r7.2 [61]) fun r9 => Res.given (aI.g.o r9) (Res.br r9.1 (Res.bind (G.parse_parser_assign r9.2) fun r10 => Res.given (parse_parser_assign.g.o r10) (Res.ax (decide ((r8.2.length + [(aL.mk (aL.lab r10.1) (aL.kids r10.1))].length) * 144 ≤ 2 ^ 47)) (Res.ok ((r10.2, (r8.1, (r8.2 ++ [(aL.mk (aL.lab r10.1) (aL.kids r10.1))]))))))) (Res.ok ((r9.2, r8))))) fun x11 => Res.ax (decide ((x6.2.2.length + [(aL.mk x11.2.1 x11.2.2)].length) * 144 ≤ 2 ^ 47)) (Res.bind (α := (Bool × aF.den)) (Res.bind (g_parse_parser_fine x11.1) fun r12 => Res.br (!r12) (Res.ok ((true, x11.1))) (Res.bind (g_parse_parser_take x11.1 [44]) fun r13 => Res.given (aI.g.o r13) (Res.ok (((!r13.1), r13.2))))) fun x14 => Res.br x14.1 (Res.ok (.done ((x14.2, (x6.2.1, (x6.2.2 ++ [(aL.mk x11.2.1 x11.2.2)])))))) (Res.ok (.next ((x14.2, (x6.2.1, (x6.2.2 ++ [(aL.mk x11.2.1 x11.2.2)])))))))))) fuel x5) fun x15 => Res.ok (((aL.mk x15.2.1 x15.2.2), x15.1))))) parse_parser_declares.ann := eqn Tryz.f239
theorem parse_parser_declares.eq (G : bK) : Eqn (Q [ae.spec, ak.spec, parse_parser_assign.spec G, bM.spec, a8.spec, aS.spec, aI.spec]) (parse_parser_declares.g.sp 239 fun x => R.parse_parser_declares G x) parse_parser_declares.ann := parse_parser_declares.eq_ R.ae R.ak R.bM R.a8 R.aS R.aI G
theorem eval_run_arguments.eq (G : bJ) : Eqn (Q [eval_run_expression.spec G]) (eval_run_arguments.g.sp 328 fun x => R.eval_run_arguments G x.1 x.2.1 x.2.2) (.r (.r (.l (.r (.l (.loop ⟨[(9, (false, (.own (.frz aA)))), (16, vi)], [6, 8, 11, 12, 13] ++ rg 17 19, [(2, aM)], [0, 1]⟩ [(.ext 0, ⟨[(9, (false, (.own (.frz aA))))], [6, 8, 11, 12, 13] ++ rg 16 20, [(2, aM)], [0, 1]⟩), (.ret, ⟨[(6, (false, (.own (.frz aA)))), (8, vi)], [9, 11, 12, 13] ++ rg 16 20, [(2, aM), (4, (.box (.frz aA)))], [0, 1]⟩)] .none)))))) := eqn Tryz.f328
theorem gU.eq : Eqn (Q [eJ.spec]) gU.spec (.r (.two (.l (.piece [(.nrm, ⟨[(10, vb)], rg 3 7, [], []⟩)] .none)) (.l (.r (.l (.r (.r (.r (.r (.r (.r (.two (.piece [(.nrm, ⟨[(19, vb)], rg 20 4, [], []⟩)] .none) (.r (.two (.piece [(.nrm, ⟨[(24, vb)], rg 25 5, [], []⟩)] .none) (.r (.two (.piece [(.nrm, ⟨[(30, vb)], [31, 32, 33], [], []⟩)] .none) (.r (.two (.piece [(.nrm, ⟨[(34, vb)], [35, 36], [], []⟩)] .none) (.r (.l (.piece [(.nrm, ⟨[(37, vb)], [38, 39, 40], [], []⟩)] .none))))))))))))))))))))) := eqn Tryz.f354
theorem eval_run_array.eq (G : bJ) : Eqn (Q [iF.spec, ah.spec, eval_run_expression.spec G, di.spec]) (eval_run_array.g.sp 311 fun x => R.eval_run_array G x.1 x.2.1 x.2.2) (.r (.r (.r (.l (.r (.l (.loop ⟨[(26, vi)], [7] ++ rg 10 4 ++ rg 27 26, [(2, aM)], [5, 6]⟩ [(.ext 0, ⟨[], [7] ++ rg 10 4 ++ rg 26 27, [(2, aM)], [5, 6]⟩), (.ret, ⟨[(7, vi)], rg 10 4 ++ rg 26 27, [(2, aM), (4, (.box (.frz aA)))], [5, 6]⟩)] .none))))))) := eqn Tryz.f311
theorem dJ.eq : Eqn (Q [eJ.spec, aj.spec, bA.spec]) dJ.spec (.r (.r (.r (.l (.piece [(.nrm, ⟨[(3, vi)], [2] ++ rg 7 19, [], []⟩), (.ret, ⟨[(2, vb)], [3] ++ rg 7 19, [], []⟩)] (.r (.l (.l (.loop ⟨[(3, vi)], [2] ++ rg 12 14, [], []⟩ [(.ext 0, ⟨[(3, vi)], [2] ++ rg 12 14, [], []⟩), (.ret, ⟨[(2, vb)], [3] ++ rg 12 14, [], []⟩)] .none))))))))) := eqn Tryz.f300
theorem gV.eq : Eqn (Q [gJ.spec]) gV.spec (.r (.r (.r (.l (.r (.l (.loop ⟨[(5, (false, (.own .w))), (6, (false, .w)), (14, vi)], rg 7 5 ++ rg 15 25, [], []⟩ [(.ext 0, ⟨[(5, (false, (.own .w)))], rg 6 6 ++ rg 14 26, [], []⟩)] (.r (.r (.l (.l (.r (.r (.l (.piece [(.nrm, ⟨[(9, (false, .w))], rg 19 8, [], []⟩)] .none))))))))))))))) := eqn Tryz.f172
theorem aX.eq : Eqn (Q [dw.spec]) aX.spec (.r (.l (.r (.l (.loop ⟨[(8, vi)], [4, 5] ++ rg 9 10, [], []⟩ [(.ext 0, ⟨[], [4, 5] ++ rg 8 11, [], []⟩), (.ret, ⟨[(4, vi)], [5] ++ rg 8 11, [], []⟩)] .none))))) := eqn Tryz.f246
theorem gL.eq : Eqn (Q [fY.spec]) gL.spec (.r (.r (.l (.r (.l (.loop ⟨[(1, (false, .w)), (5, (false, (.own .w))), (10, vi)], [7] ++ rg 11 13, [], []⟩ [(.ext 0, ⟨[(1, (false, .w)), (5, (false, (.own .w)))], [7] ++ rg 10 14, [], []⟩)] .none)))))) := eqn Tryz.f223
theorem bw.eq : Eqn (Q []) bw.spec (.r (.r (.l (.r (.l (.loop ⟨[(13, vi)], [4, 5] ++ rg 14 12, [], []⟩ [(.ext 0, ⟨[], [4, 5] ++ rg 13 13, [], []⟩), (.ret, ⟨[(4, vb)], [5] ++ rg 13 13, [], []⟩)] .none)))))) := eqn Tryz.f166
theorem cg.eq : Eqn (Q []) cg.spec (.r (.l (.r (.l (.two (.piece [(.nrm, ⟨[(5, vb)], rg 6 4, [], []⟩)] .none) (.r (.l (.piece [(.nrm, ⟨[(10, vb)], rg 11 6, [], []⟩)] .none)))))))) := eqn Tryz.f296
theorem ij.eq : Eqn (Q []) ij.spec (.r (.l (.r (.l (.two (.piece [(.nrm, ⟨[(4, vb)], rg 5 22, [], []⟩)] .none) (.r (.l (.piece [(.nrm, ⟨[(27, vb)], rg 28 27, [], []⟩)] .none)))))))) := eqn Tryz.f181
theorem eval_run_property.eq (G : bJ) : Eqn (Q [eN.spec, eval_run_parts.spec G]) (eval_run_property.g.sp 330 fun x => R.eval_run_property G x.1 x.2.1 x.2.2) .none := eqn Tryz.f330
theorem bV.eq : Eqn (Q [ca.spec, eval_run_list.spec (bz fuel), cW.spec]) bV.spec .none := eqn Tryz.f80
theorem cU.eq : Eqn (Q [bN.spec, cX.spec, dE.spec]) cU.spec .none := eqn Tryz.f219
theorem jr.eq : Eqn (Q [fE.spec, eY.spec, cD.spec, eP.spec]) jr.spec .none := eqn Tryz.f152
theorem iW.eq : Eqn (Q [bw.spec, cM.spec]) iW.spec .none := eqn Tryz.f93
theorem dB.eq : Eqn (Q [cF.spec]) dB.spec .none := eqn Tryz.f394
theorem iF.eq : Eqn (Q [oW 123, aq.spec]) iF.spec .none := eqn Tryz.f321
theorem bl.eq : Eqn (Q [bN.spec]) bl.spec .none := eqn Tryz.f350
theorem ec.eq : Eqn (Q [eo.spec]) ec.spec .none := eqn Tryz.f120
theorem eE.eq : Eqn (Q [cE.spec]) eE.spec .none := eqn Tryz.f399
theorem dO.eq : Eqn (Q []) dO.spec .none := eqn Tryz.f13
theorem bu.eq : Eqn (Q []) bu.spec .none := eqn Tryz.f157
theorem gM.eq : Eqn (Q []) gM.spec .none := eqn Tryz.f158
theorem jC.eq : Eqn (Q []) jC.spec .none := eqn Tryz.f230
theorem gZ.eq : Eqn (Q []) gZ.spec .none := eqn Tryz.f37
end Go.Mach
