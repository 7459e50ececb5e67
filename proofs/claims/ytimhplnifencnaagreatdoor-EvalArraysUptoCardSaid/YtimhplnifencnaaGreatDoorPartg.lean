/-
  Proved here: the law renlaw12.EvalArrays returns true for every input of the stated bulk and leaves its arguments as they were; no further condition.
  By an AI agent; no person has read it.
-/
import Derived.Test.YtimhplnifencnaaGreatDoorPartf
import Derived.KernelRfl
import Derived.Test.YtimhplnifencnaaGreatDoorProg
set_option linter.all false
set_option linter.deprecated false
set_option linter.unusedVariables false
set_option maxRecDepth 100000
namespace Go.Mach
open Go.Proofs
theorem eval_run_host.eq (G : bD) : Eqn (Q [bz.spec, cH.spec, bP.spec, dt.spec, dG.spec, aO.spec, aC.spec, au.spec]) (eval_run_host.g.sp 389 fun x => R.eval_run_host G x.1 x.2.1 x.2.2) (.r (.r (.two (.piece [(.nrm, ⟨[], rg 9 4 ++ rg 17 7 ++ rg 28 23 ++ rg 55 7 ++ rg 67 9 ++ rg 81 7, [(5, (.box (.frz dZ)))], []⟩), (.ret, ⟨[(7, vi)], rg 9 6 ++ [17] ++ rg 19 9 ++ rg 31 24 ++ [60, 61] ++ rg 67 14 ++ [83, 84] ++ rg 86 14, [(2, aK), (4, (.box (.frz aA)))], [0, 1]⟩)] (.r (.l (.r (.r (.r (.l (.r (.l (.l (.piece [(.nrm, ⟨[(50, vb)], rg 43 7, [], []⟩)] .none))))))))))) (.r (.l (.l (.r (.r (.r (.r (.l (.piece [(.nrm, ⟨[(123, vb)], rg 124 8, [], []⟩)] .none)))))))))))) := eqn Tryz.f389
theorem ch.eq : Eqn (Q [dW.spec, eB.spec, eo.spec]) ch.spec (.r (.r (.two (.r (.l (.loop ⟨[(1, (false, (.own .s))), (13, vi)], [3, 5] ++ rg 14 19, [], [0]⟩ [(.ext 0, ⟨[(1, (false, (.own .s)))], [3, 5] ++ rg 13 20, [], [0]⟩)] (.r (.r (.l (.l (.r (.r (.l (.loop ⟨[(1, (false, (.own .s))), (20, vi)], [5] ++ rg 21 11, [], [4]⟩ [(.ext 2, ⟨[(1, (false, (.own .s)))], [5] ++ rg 20 12, [], [4]⟩)] .none))))))))))) (.r (.l (.r (.l (.loop ⟨[(1, (false, (.own .s))), (38, vi)], [7] ++ rg 39 11, [], [6]⟩ [(.ext 4, ⟨[(1, (false, (.own .s)))], [7] ++ rg 38 12, [], [6]⟩)] .none)))))))) := eqn Tryz.f372
theorem parse_parser_list.eq (G : bE) : Eqn (Q [parse_parser_assign.spec G, bI.spec, aQ.spec, aG.spec]) (parse_parser_list.g.sp 426 fun x => R.parse_parser_list G x.1 x.2) (.r (.r (.r (.l (.loop ⟨[(5, (false, (.own (.frz (.rose aB)))))], [4] ++ rg 10 16, [(0, aD)], []⟩ [(.ret, ⟨[(4, (false, (.own (.frz (.rose aB)))))], [5] ++ rg 10 16, [(0, aD)], []⟩)] (.l (.r (.l (.l (.piece [(.nrm, ⟨[(22, vb)], rg 15 7, [(0, aD)], []⟩)] .none)))))))))) := eqn Tryz.f426
theorem cV.eq : Eqn (Q [ae.spec, bI.spec, av.spec, aQ.spec, aG.spec]) cV.spec (.r (.r (.r (.r (.l (.loop ⟨[(3, (false, (.own (.frz (.rose aB)))))], [2] ++ rg 9 16, [(0, aD)], []⟩ [(.ret, ⟨[(2, (false, (.own (.frz (.rose aB)))))], [3] ++ rg 9 16, [(0, aD)], []⟩)] (.l (.r (.l (.l (.piece [(.nrm, ⟨[(21, vb)], rg 15 6, [(0, aD)], []⟩)] .none))))))))))) := eqn Tryz.f277
theorem parse_parser_statement.eq (G : bE) : Eqn (Q [dy.spec, aX.spec, ae.spec, aa.spec, aH.spec, aw.spec, parse_parser_simple.spec G, parse_parser_statement.spec G, aG.spec, parse_parser_word.spec G]) (parse_parser_statement.g.sp 244 fun x => R.parse_parser_statement G x) (.r (.r (.l (.l (.l (.piece [(.nrm, ⟨[(6, vb)], rg 7 8, [], []⟩)] .none)))))) := eqn Tryz.f244
theorem parse_parser_item.eq (G : bE) : Eqn (Q [dy.spec, parse_parser_declares.spec G, bZ.spec, av.spec, aH.spec, parse_parser_statement.spec G, aG.spec]) (parse_parser_item.g.sp 211 fun x => R.parse_parser_item G x) (.r (.l (.r (.l (.l (.piece [(.nrm, ⟨[(8, vb)], rg 9 6, [], []⟩)] .none)))))) := eqn Tryz.f211
theorem kE.eq : Eqn (Q [cn.spec, cu.spec, dF.spec, bt.spec, dY.spec, da.spec, eS.spec, dv.spec]) kE.spec (.r (.r (.l (.l (.two (.piece [(.nrm, ⟨[(10, vb)], rg 11 14, [], []⟩)] .none) (.r (.l (.piece [(.nrm, ⟨[(26, vb)], rg 27 6, [], []⟩)] .none)))))))) := eqn Tryz.f90
theorem iz.eq : Eqn (Q [kt.spec, cn.spec, cu.spec, dF.spec, dY.spec]) iz.spec (.r (.r (.l (.l (.two (.piece [(.nrm, ⟨[(10, vb)], rg 11 21, [], []⟩)] .none) (.r (.r (.r (.r (.r (.l (.piece [(.nrm, ⟨[(41, vb)], rg 42 8, [], []⟩)] .none)))))))))))) := eqn Tryz.f86
theorem ed.eq : Eqn (Q [cR.spec, dt.spec, aO.spec, de.spec, cm.spec]) ed.spec (.r (.l (.l (.r (.r (.r (.r (.l (.piece [(.nrm, ⟨[(37, vb)], rg 38 6, [], []⟩)] .none))))))))) := eqn Tryz.f400
theorem dq.eq : Eqn (Q []) dq.spec (.r (.r (.l (.r (.l (.loop ⟨[(5, vi)], [4] ++ rg 11 15, [], []⟩ [(.ext 0, ⟨[], [4, 5] ++ rg 11 15, [], []⟩), (.ret, ⟨[(4, vb)], [5] ++ rg 11 15, [], []⟩)] .none)))))) := eqn Tryz.f30
theorem iI.eq : Eqn (Q [cn.spec, iH.spec, da.spec, bX.spec]) iI.spec (.r (.r (.l (.r (.l (.r (.r (.l (.piece [(.nrm, ⟨[(10, vb)], [11, 12], [], []⟩)] .none))))))))) := eqn Tryz.f57
theorem gT.eq : Eqn (Q [iJ.spec, ff.spec, jM.spec, fA.spec]) gT.spec (.r (.l (.l (.l (.piece [(.nrm, ⟨[(8, vb)], rg 9 8, [], []⟩)] .none))))) := eqn Tryz.f92
theorem jh.eq : Eqn (Q [eY.spec]) jh.spec (.r (.r (.l (.piece [(.nrm, ⟨[(3, (false, (.frz (.int .u64))))], rg 6 4, [], []⟩)] .none)))) := eqn Tryz.f60
theorem gp.eq : Eqn (Q []) gp.spec (.r (.l (.r (.l (.r (.r (.l (.piece [(.nrm, ⟨[(15, vb)], rg 16 4, [], []⟩)] .none)))))))) := eqn Tryz.f36
theorem cL.eq : Eqn (Q [aS.spec]) cL.spec .none := eqn Tryz.f216
theorem dG.eq : Eqn (Q [gJ 70 (.int .u16), bS.spec]) dG.spec .none := eqn Tryz.f391
theorem bA.eq : Eqn (Q [fg.spec]) bA.spec .none := eqn Tryz.f236
theorem aG.eq : Eqn (Q [aw.spec]) aG.spec .none := eqn Tryz.f241
theorem cN.eq : Eqn (Q [aY.spec]) cN.spec .none := eqn Tryz.f144
theorem gu.eq : Eqn (Q [cB.spec]) gu.spec .none := eqn Tryz.f118
theorem cJ.eq : Eqn (Q [bx.spec]) cJ.spec .none := eqn Tryz.f85
theorem bF.eq : Eqn (Q [fi.spec]) bF.spec .none := eqn Tryz.f46
theorem bK.eq : Eqn (Q []) bK.spec .none := eqn Tryz.f197
theorem fF.eq : Eqn (Q []) fF.spec .none := eqn Tryz.f121
theorem gH.eq : Eqn (Q []) gH.spec .none := eqn Tryz.f156
theorem bx.eq : Eqn (Q []) bx.spec .none := eqn Tryz.f27
end Go.Mach
set_option linter.unusedVariables false
set_option maxRecDepth 100000
namespace Go.Mach
open Go.Proofs
theorem parse_parser_either.eq (G : bE) : Eqn (Q [ae.spec, parse_parser_both.spec G, parse_parser_level.spec G, aw.spec, aG.spec]) (parse_parser_either.g.sp 318 fun x => R.parse_parser_either G x) (.r (.r (.two (.r (.l (.two (.l (.loop ⟨[], rg 8 7, [(0, aD), (3, (.box (.frz (.rose aB))))], []⟩ [(.ext 0, ⟨[], rg 8 7, [(0, aD), (3, (.box (.frz (.rose aB))))], []⟩)] .none)) (.l (.piece [(.nrm, ⟨[], rg 15 6, [], []⟩)] (.l (.piece [(.nrm, ⟨[(20, vb)], rg 15 5, [], []⟩)] .none))))))) (.r (.l (.l (.loop ⟨[], rg 27 9, [(0, aD), (3, (.box (.frz (.rose aB))))], []⟩ [(.ext 2, ⟨[], rg 27 9, [(0, aD), (3, (.box (.frz (.rose aB))))], []⟩)] .none))))))) := eqn Tryz.f318
theorem db.eq : Eqn (Q [iT.spec, cM.spec, bA.spec, fW.spec]) db.spec (.r (.r (.two (.l (.loop ⟨[(4, vi)], [3, 5, 6] ++ rg 19 52, [], []⟩ [(.ext 0, ⟨[], rg 3 4 ++ rg 19 52, [], []⟩), (.ret, ⟨[(3, vi)], [4, 5, 6] ++ rg 19 52, [(0, bU), (1, (.box (.seq .i (.seq .s (.seq (.own .h) (.seq (.frz aF) (.seq (.seq .b (.own .w)) (.seq .i .b))))))))], []⟩)] (.r (.l (.l (.r (.l (.l (.piece [(.nrm, ⟨[(56, vb)], rg 42 14, [], []⟩)] .none))))))))) (.r (.l (.l (.piece [(.nrm, ⟨[(101, vb)], rg 81 20, [], []⟩)] .none))))))) := eqn Tryz.f237
theorem gY.eq : Eqn (Q [ik.spec, gz.spec, gd.spec]) gY.spec (.r (.r (.r (.two (.l (.piece [(.nrm, ⟨[(36, vb)], rg 25 11, [], []⟩)] .none)) (.two (.r (.l (.loop ⟨[(40, vi)], [4, 8, 9, 10] ++ rg 41 23, [], []⟩ [(.ext 0, ⟨[], [4, 8, 9, 10] ++ rg 40 24, [], []⟩), (.ret, ⟨[(4, vb)], [8, 9, 10] ++ rg 40 24, [], []⟩)] (.r (.r (.l (.l (.r (.r (.l (.piece [(.nrm, ⟨[(10, vi)], rg 46 8, [], []⟩)] .none))))))))))) (.l (.l (.r (.r (.l (.piece [(.nrm, ⟨[(90, vb)], rg 91 9, [], []⟩)] .none))))))))))) := eqn Tryz.f40
theorem dp.eq : Eqn (Q [ij.spec, iX.spec, cM.spec]) dp.spec (.r (.l (.r (.r (.l (.l (.loop ⟨[(5, vb)], [2, 3, 4] ++ rg 6 67, [(0, bU)], []⟩ [(.ext 0, ⟨[(5, vb)], [2, 3, 4] ++ rg 6 67, [(0, bU)], []⟩)] (.r (.l (.r (.l (.l (.two (.piece [(.nrm, ⟨[(30, vb)], rg 31 6, [], []⟩)] .none) (.two (.l (.piece [(.nrm, ⟨[(5, vb)], rg 37 5, [], []⟩)] .none)) (.l (.piece [(.nrm, ⟨[(49, vb)], rg 50 6, [], []⟩)] .none)))))))))))))))) := eqn Tryz.f207
theorem gS.eq : Eqn (Q [di.spec]) gS.spec (.r (.r (.r (.l (.r (.l (.loop ⟨[(5, (false, (.own .h))), (6, vi)], [2, 3, 4, 7, 8] ++ rg 12 43, [], []⟩ [(.ext 0, ⟨[(5, (false, (.own .h)))], [2, 3, 4, 6, 7, 8] ++ rg 12 43, [], []⟩), (.ret, ⟨[(2, (false, (.own .h))), (3, vi), (4, vi)], rg 5 4 ++ rg 12 43, [], []⟩)] (.r (.l (.r (.l (.l (.l (.piece [(.nrm, ⟨[(36, vb)], rg 37 6, [], []⟩)] .none)))))))))))))) := eqn Tryz.f126
theorem fc.eq : Eqn (Q []) fc.spec (.r (.r (.l (.r (.l (.loop ⟨[(15, vi)], [4, 5, 7] ++ rg 16 29, [(2, (.own .i))], []⟩ [(.ext 0, ⟨[], [4, 5, 7] ++ rg 15 30, [(2, (.own .i))], []⟩)] (.r (.r (.l (.l (.r (.r (.r (.l (.loop ⟨[(31, vi)], [7] ++ rg 32 12, [(2, (.own .i))], []⟩ [(.ext 2, ⟨[], [7] ++ rg 31 13, [(2, (.own .i))], []⟩)] .none))))))))))))))) := eqn Tryz.f42
theorem cE.eq : Eqn (Q [aX.spec, parse_parser_item.spec (cX fuel), aH.spec]) cE.spec (.r (.r (.l (.l (.loop ⟨[], rg 5 11, [(0, aD), (3, (.box lz))], [2]⟩ [(.ext 0, ⟨[], rg 5 11, [(0, aD), (3, (.box lz))], [2]⟩)] .none))))) := eqn Tryz.f179
theorem fb.eq : Eqn (Q [gM.spec, eA.spec, gL.spec]) fb.spec (.r (.r (.two (.l (.piece [(.nrm, ⟨[(31, vb)], rg 19 12, [], []⟩)] .none)) (.l (.r (.l (.r (.r (.r (.r (.l (.piece [(.nrm, ⟨[(64, vb)], [65, 66], [], []⟩)] .none)))))))))))) := eqn Tryz.f78
theorem parse_parser_cond.eq (G : bE) : Eqn (Q [aX.spec, parse_parser_assign.spec G, parse_parser_either.spec G, aQ.spec, aG.spec]) (parse_parser_cond.g.sp 301 fun x => R.parse_parser_cond G x) .none := eqn Tryz.f301
theorem ey.eq : Eqn (Q []) ey.spec (.r (.r (.l (.r (.l (.loop ⟨[(5, (false, (.own .s))), (15, vi)], [7] ++ rg 16 13, [], []⟩ [(.ext 0, ⟨[(5, (false, (.own .s)))], [7] ++ rg 15 14, [], []⟩)] .none)))))) := eqn Tryz.f186
theorem parse_parser_simple.eq (G : bE) : Eqn (Q [aX.spec, parse_parser_assign.spec G, bZ.spec]) (parse_parser_simple.g.sp 281 fun x => R.parse_parser_simple G x) .none := eqn Tryz.f281
theorem bz.eq : Eqn (Q [bF.spec, eh.spec]) bz.spec (.r (.r (.l (.r (.l (.r (.r (.l (.piece [(.nrm, ⟨[(13, vb)], [14, 15], [], []⟩)] .none))))))))) := eqn Tryz.f26
theorem eF.eq : Eqn (Q []) eF.spec (.r (.l (.r (.l (.r (.r (.l (.piece [(.nrm, ⟨[(7, vb)], [8, 9], [], []⟩)] .none)))))))) := eqn Tryz.f130
theorem al.eq : Eqn (Q [cW.spec]) al.spec .none := eqn Tryz.f236
theorem fQ.eq : Eqn (Q [dQ.spec, fp.spec, gS.spec]) fQ.spec .none := eqn Tryz.f71
theorem bw.eq : Eqn (Q [cG.spec]) bw.spec .none := eqn Tryz.f424
theorem i7.eq : Eqn (Q [aL.spec, eF.spec]) i7.spec .none := eqn Tryz.f302
theorem jA.eq : Eqn (Q [eY.spec, cA.spec, eD.spec]) jA.spec .none := eqn Tryz.f56
theorem iP.eq : Eqn (Q [cH.spec, bP.spec]) iP.spec .none := eqn Tryz.f47
theorem dV.eq : Eqn (Q [cQ.spec]) dV.spec .none := eqn Tryz.f83
theorem aa.eq : Eqn (Q []) aa.spec .none := eqn Tryz.f279
theorem dK.eq : Eqn (Q []) dK.spec .none := eqn Tryz.f224
theorem dW.eq : Eqn (Q []) dW.spec .none := eqn Tryz.f398
theorem aX.eq : Eqn (Q []) aX.spec .none := eqn Tryz.f209
theorem ib.eq : Eqn (Q []) ib.spec .none := eqn Tryz.f373
theorem eZ.eq : Eqn (Q []) eZ.spec .none := eqn Tryz.f55
end Go.Mach
set_option linter.unusedVariables false
set_option maxRecDepth 100000
namespace Go.Mach
open Go.Proofs
theorem gd.eq : Eqn (Q [fC.spec]) gd.spec (.r (.l (.r (.l (.two (.piece [(.nrm, ⟨[(7, vb)], [8, 9], [], []⟩)] .none) (.r (.two (.piece [(.nrm, ⟨[(10, vb)], rg 11 5, [], []⟩)] .none) (.r (.two (.piece [(.nrm, ⟨[(17, vb)], [18, 19], [], []⟩)] .none) (.r (.two (.piece [(.nrm, ⟨[(21, vb)], [22, 23], [], []⟩)] .none) (.r (.r (.r (.r (.r (.r (.r (.r (.r (.r (.r (.r (.r (.two (.piece [(.nrm, ⟨[(50, vb)], [51, 52], [], []⟩)] .none) (.r (.r (.r (.r (.r (.r (.r (.two (.piece [(.nrm, ⟨[(63, vb)], [64, 65], [], []⟩)] .none) (.r (.two (.piece [(.nrm, ⟨[(67, vb)], [68, 69, 70], [], []⟩)] .none) (.r (.r (.r (.r (.r (.l (.piece [(.nrm, ⟨[(78, vb)], [79, 80], [], []⟩)] .none)))))))))))))))))))))))))))))))))))))))))) := eqn Tryz.f73
theorem fK.eq : Eqn (Q [cQ.spec, ax.spec, gT.spec, ic.spec]) fK.spec (.r (.two (.l (.two (.piece [(.nrm, ⟨[(15, vb)], rg 16 8, [], []⟩)] .none) (.r (.two (.piece [(.nrm, ⟨[(25, vb)], rg 26 8, [], []⟩)] .none) (.two (.l (.piece [(.nrm, ⟨[], [34, 35, 36], [(0, (.box (.frz aA))), (1, (.box (.frz aA)))], []⟩)] .none)) (.l (.piece [(.nrm, ⟨[(45, vb)], rg 46 18, [], []⟩)] .none))))))) (.r (.r (.r (.r (.l (.piece [(.nrm, ⟨[], [83, 84, 85], [(3, (.box (.frz aA))), (4, (.box (.frz aA)))], []⟩)] .none)))))))) := eqn Tryz.f50
theorem parse_parser_assign.eq (G : bE) : Eqn (Q [dy.spec, ae.spec, aa.spec, dB.spec, parse_parser_assign.spec G, parse_parser_body.spec G, parse_parser_cond.spec G, aH.spec, cV.spec, i7.spec, eM.spec]) (parse_parser_assign.g.sp 273 fun x => R.parse_parser_assign G x) (.r (.two (.r (.l (.piece [(.nrm, ⟨[(21, vb)], rg 8 13, [], []⟩)] .none))) (.r (.r (.r (.l (.l (.piece [(.nrm, ⟨[(53, vb)], rg 45 8, [], []⟩)] .none)))))))) := eqn Tryz.f273
theorem j9.eq : Eqn (Q [fy.spec, cA.spec, eD.spec]) j9.spec (.r (.r (.r (.l (.r (.l (.loop ⟨[(26, vi)], rg 9 5 ++ rg 27 45, [(7, (.own .w))], []⟩ [(.ext 0, ⟨[], rg 9 5 ++ rg 26 46, [(7, (.own .w))], []⟩)] (.r (.r (.l (.l (.r (.r (.l (.r (.l (.loop ⟨[(11, (false, (.frz (.int .u64)))), (33, vi)], [12, 13] ++ rg 34 29, [(7, (.own .w))], []⟩ [(.ext 2, ⟨[(11, (false, (.frz (.int .u64))))], [12, 13] ++ rg 33 30, [(7, (.own .w))], []⟩)] .none))))))))))))))))) := eqn Tryz.f151
theorem jv.eq : Eqn (Q [cn.spec, gH.spec, iH.spec, cu.spec, dF.spec, bt.spec, dY.spec, da.spec, eS.spec, dv.spec]) jv.spec (.r (.r (.r (.l (.l (.two (.piece [(.nrm, ⟨[(16, vb)], rg 17 22, [], []⟩)] .none) (.r (.two (.piece [(.nrm, ⟨[(40, vb)], rg 41 6, [], []⟩)] .none) (.r (.l (.piece [(.nrm, ⟨[(49, vb)], rg 50 6, [], []⟩)] .none))))))))))) := eqn Tryz.f89
theorem parse_parser_member.eq (G : bE) : Eqn (Q [aX.spec, ae.spec, parse_parser_assign.spec G, aQ.spec, aH.spec, aG.spec]) (parse_parser_member.g.sp 405 fun x => R.parse_parser_member G x.1 x.2) (.r (.l (.l (.r (.l (.r (.l (.l (.piece [(.nrm, ⟨[(19, vb)], rg 12 7, [], []⟩)] .none))))))))) := eqn Tryz.f405
theorem aR.eq : Eqn (Q [dN.spec]) aR.spec (.r (.l (.r (.l (.loop ⟨[(8, vi)], [4, 5] ++ rg 9 10, [], []⟩ [(.ext 0, ⟨[], [4, 5] ++ rg 8 11, [], []⟩), (.ret, ⟨[(4, vi)], [5] ++ rg 8 11, [], []⟩)] .none))))) := eqn Tryz.f285
theorem fY.eq : Eqn (Q []) fY.spec (.r (.l (.l (.loop ⟨[(0, (false, (.frz (.list (.int .u32)))))], rg 3 17, [], []⟩ [(.ext 0, ⟨[(0, (false, (.frz (.list (.int .u32)))))], rg 3 17, [], []⟩)] (.l (.l (.piece [(.nrm, ⟨[(14, vb)], rg 3 11, [], []⟩)] .none))))))) := eqn Tryz.f124
theorem du.eq : Eqn (Q [gA.spec, gp.spec, eV.spec]) du.spec (.r (.two (.l (.piece [(.nrm, ⟨[(50, vb)], rg 3 47, [], []⟩)] .none)) (.l (.r (.l (.l (.piece [(.nrm, ⟨[(53, vb)], [54, 55], [], []⟩)] .none))))))) := eqn Tryz.f39
theorem eI.eq : Eqn (Q [cd.spec, aC.spec]) eI.spec (.r (.r (.l (.piece [(.nrm, ⟨[(10, vi)], rg 18 8, [], []⟩)] (.l (.piece [(.nrm, ⟨[(25, vb)], rg 18 7, [], []⟩)] .none)))))) := eqn Tryz.f416
theorem eval_run_binary.eq (G : bD) : Eqn (Q [eval_run_expression.spec G, b8.spec, eg.spec]) (eval_run_binary.g.sp 324 fun x => R.eval_run_binary G x.1 x.2.1 x.2.2) .none := eqn Tryz.f324
theorem dH.eq : Eqn (Q [cd.spec, bf.spec, dG.spec, aY.spec, aO.spec, aC.spec]) dH.spec .none := eqn Tryz.f368
theorem cz.eq : Eqn (Q [gJ 70 (.int .u16), bK.spec, cg.spec, cr.spec]) cz.spec .none := eqn Tryz.f218
theorem gx.eq : Eqn (Q []) gx.spec (.r (.l (.r (.l (.l (.piece [(.nrm, ⟨[(4, vb)], rg 5 33, [], []⟩)] .none)))))) := eqn Tryz.f337
theorem cR.eq : Eqn (Q [ch.spec, bG.spec]) cR.spec .none := eqn Tryz.f357
theorem fL.eq : Eqn (Q [dW.spec, bG.spec]) fL.spec .none := eqn Tryz.f395
theorem cP.eq : Eqn (Q [cH.spec, aY.spec]) cP.spec .none := eqn Tryz.f355
theorem fI.eq : Eqn (Q [aL.spec]) fI.spec .none := eqn Tryz.f189
theorem fy.eq : Eqn (Q [eY.spec, fY.spec]) fy.spec .none := eqn Tryz.f198
theorem cG.eq : Eqn (Q []) cG.spec .none := eqn Tryz.f435
theorem eU.eq : Eqn (Q [bx.spec]) eU.spec .none := eqn Tryz.f95
theorem et.eq : Eqn (Q [cn.spec]) et.spec .none := eqn Tryz.f105
theorem eD.eq : Eqn (Q [gA.spec]) eD.spec .none := eqn Tryz.f99
theorem eo.eq : Eqn (Q []) eo.spec .none := eqn Tryz.f356
theorem fS.eq : Eqn (Q []) fS.spec .none := eqn Tryz.f35
theorem dY.eq : Eqn (Q []) dY.spec .none := eqn Tryz.f106
end Go.Mach
set_option linter.unusedVariables false
set_option maxRecDepth 100000
namespace Go.Mach
open Go.Proofs
theorem eval_run_does.eq (G : bD) : Eqn (Q [gI.spec, cH.spec, bP.spec, ax.spec, bf.spec, dm.spec, aO.spec, dI.spec, eval_run_host.spec G, b8.spec, aC.spec, bY.spec, cc.spec, bg.spec]) (eval_run_does.g.sp 365 fun x => R.eval_run_does G x.1 x.2.1 x.2.2.1 x.2.2.2) (.r (.r (.l (.r (.l (.two (.piece [(.nrm, ⟨[(18, vb)], [19, 20], [], []⟩)] .none) (.r (.r (.r (.r (.r (.r (.r (.r (.r (.r (.two (.l (.l (.piece [(.nrm, ⟨[(79, vb)], rg 67 12, [], []⟩)] .none))) (.r (.r (.r (.r (.r (.r (.r (.r (.l (.piece [(.nrm, ⟨[(134, vb)], rg 135 5, [], []⟩)] .none))))))))))))))))))))))))))) := eqn Tryz.f365
theorem parse_parser_primary.eq (G : bE) : Eqn (Q [aX.spec, ae.spec, parse_parser_assign.spec G, parse_parser_list.spec G, av.spec, aQ.spec, aH.spec, aw.spec]) (parse_parser_primary.g.sp 425 fun x => R.parse_parser_primary G x) (.r (.r (.r (.r (.r (.two (.r (.l (.r (.r (.r (.r (.r (.r (.r (.r (.r (.r (.r (.r (.r (.l (.r (.l (.piece [(.nrm, ⟨[(4, vs)], rg 71 6, [(0, aD)], []⟩)] .none))))))))))))))))))) (.r (.l (.l (.piece [(.nrm, ⟨[(99, vb)], rg 94 5, [], []⟩)] .none)))))))))) := eqn Tryz.f425
theorem eval_run_assign.eq (G : bD) : Eqn (Q [eval_run_expression.spec G, fR.spec, eval_run_parts.spec G, aC.spec, eg.spec]) (eval_run_assign.g.sp 326 fun x => R.eval_run_assign G x.1 x.2.1 x.2.2) (.r (.r (.r (.r (.r (.two (.piece [(.nrm, ⟨[], [39, 40], [], []⟩)] .none) (.r (.l (.piece [(.nrm, ⟨[], [13, 14] ++ rg 66 11 ++ [82], [(11, (.box (.frz aA)))], []⟩), (.ret, ⟨[(7, vi)], [13, 14] ++ rg 66 16, [(2, aK), (5, (.box (.frz aA)))], [14, 15]⟩)] .none))))))))) := eqn Tryz.f326
theorem jL.eq : Eqn (Q []) jL.spec (.r (.r (.r (.l (.r (.l (.loop ⟨[(5, (false, (.own .w))), (6, (false, (.frz (.int .u64)))), (13, vi)], [7] ++ rg 14 32, [], []⟩ [(.ext 0, ⟨[(5, (false, (.own .w))), (6, (false, (.frz (.int .u64))))], [7] ++ rg 13 33, [], []⟩)] (.r (.r (.l (.l (.r (.two (.piece [(.nrm, ⟨[(6, (false, (.frz (.int .u64))))], rg 16 11, [], []⟩)] .none) (.l (.piece [(.nrm, ⟨[(6, (false, (.frz (.int .u64))))], rg 27 11, [], []⟩)] .none))))))))))))))) := eqn Tryz.f199
theorem eval_run_called.eq (G : bD) : Eqn (Q [bH.spec, eval_run_expression.spec G, cp.spec, eval_run_parts.spec G]) (eval_run_called.g.sp 345 fun x => R.eval_run_called G x.1 x.2.1 x.2.2) (.r (.r (.two (.l (.piece [(.nrm, ⟨[(30, vb)], rg 23 7, [], []⟩)] .none)) (.r (.r (.l (.piece [(.nrm, ⟨[(14, vi)], rg 54 8, [(2, aK), (15, (.box (.frz aA)))], [11, 12]⟩)] .none))))))) := eqn Tryz.f345
theorem gf.eq : Eqn (Q [dp.spec, dJ.spec]) gf.spec (.r (.r (.r (.r (.l (.loop ⟨[(6, (false, (.own (.frz bW))))], [2, 3, 4] ++ rg 7 4 ++ rg 17 41, [(0, (.box (.frz gn)))], []⟩ [(.ret, ⟨[(2, (false, (.own (.frz bW)))), (3, vi), (4, vi)], rg 6 5 ++ rg 17 41, [], [0]⟩)] .none)))))) := eqn Tryz.f178
theorem cM.eq : Eqn (Q []) cM.spec (.r (.l (.r (.l (.loop ⟨[(8, vi)], [4, 5] ++ rg 9 34, [], []⟩ [(.ext 0, ⟨[], [4, 5] ++ rg 8 35, [], []⟩), (.ret, ⟨[(4, vb)], [5] ++ rg 8 35, [], []⟩)] (.r (.r (.l (.l (.r (.l (.piece [(.nrm, ⟨[(41, vb)], rg 11 30, [], []⟩)] .none)))))))))))) := eqn Tryz.f231
theorem bO.eq : Eqn (Q [bA.spec]) bO.spec (.r (.r (.l (.l (.loop ⟨[(5, (false, (.own .y)))], rg 6 24, [(0, bU)], []⟩ [(.ext 0, ⟨[(5, (false, (.own .y)))], rg 6 24, [(0, bU)], []⟩)] .none))))) := eqn Tryz.f265
theorem ca.eq : Eqn (Q []) ca.spec (.r (.two (.piece [(.nrm, ⟨[], [5, 6, 7], [], []⟩)] .none) (.r (.l (.r (.l (.loop ⟨[(3, vi), (4, vi)], rg 12 12, [], []⟩ [(.ext 0, ⟨[(3, vi)], [4] ++ rg 12 12, [], []⟩)] .none))))))) := eqn Tryz.f41
theorem dd.eq : Eqn (Q [cd.spec, eR.spec, bf.spec, eE.spec, aY.spec, aO.spec, ee.spec, aC.spec]) dd.spec .none := eqn Tryz.f371
theorem dX.eq : Eqn ({ P := Tryz.prog, specs := [], ety := nF Tryz.prog owned, inls := [wj 147 (mU.env Tryz.prog) Tryz.f147 .none] } : Env) dX.spec .none := eqn Tryz.f393
theorem gV.eq : Eqn (Q [iz.spec, jv.spec, j7.spec, kE.spec, j5.spec, iN.spec, cJ.spec, dV.spec]) gV.spec .none := eqn Tryz.f48
theorem fO.eq : Eqn (Q [ch.spec]) fO.spec (.r (.r (.l (.l (.piece [(.nrm, ⟨[(13, vb)], rg 5 8, [], []⟩)] .none))))) := eqn Tryz.f348
theorem ay.eq : Eqn (Q [dM.spec]) ay.spec .none := eqn Tryz.f236
theorem jB.eq : Eqn (Q [gW.spec, et.spec, dY.spec, bX.spec]) jB.spec .none := eqn Tryz.f58
theorem cr.eq : Eqn (Q [gJ 109 (.int .u32), gJ 70 (.int .u16)]) cr.spec .none := eqn Tryz.f217
theorem gZ.eq : Eqn (Q [fL.spec, cq.spec]) gZ.spec .none := eqn Tryz.f370
theorem cA.eq : Eqn (Q [gA.spec, gJ 109 (.int .u32)]) cA.spec .none := eqn Tryz.f98
theorem au.eq : Eqn (Q [bK.spec]) au.spec .none := eqn Tryz.f147
theorem bh.eq : Eqn (Q []) bh.spec .none := eqn Tryz.f411
theorem eP.eq : Eqn (Q [eZ.spec]) eP.spec .none := eqn Tryz.f148
theorem bl.eq : Eqn (Q []) bl.spec .none := eqn Tryz.f11
theorem eB.eq : Eqn (Q []) eB.spec .none := eqn Tryz.f397
theorem gU.eq : Eqn (Q []) gU.spec .none := eqn Tryz.f203
theorem gl.eq : Eqn (Q []) gl.spec .none := eqn Tryz.f94
theorem iH.eq : Eqn (Q []) iH.spec .none := eqn Tryz.f101
end Go.Mach
