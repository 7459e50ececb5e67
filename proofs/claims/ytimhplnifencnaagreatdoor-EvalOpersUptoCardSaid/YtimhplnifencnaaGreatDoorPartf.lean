/-
  Proved here: the law renlaw12.EvalOpers returns true for every input of the stated bulk and leaves its arguments as they were; no further condition.
  By an AI agent; no person has read it.
-/
import Derived.Test.YtimhplnifencnaaGreatDoorParte
import Derived.KernelRfl
import Derived.Test.YtimhplnifencnaaGreatDoorProg
set_option linter.all false
set_option linter.deprecated false
set_option linter.unusedVariables false
set_option maxRecDepth 100000
namespace Go.Mach
open Go.Proofs
theorem eK.eq : Eqn (Q [iO.spec, aU.spec, aq.spec, gp.spec, gO.spec, fI.spec, gN.spec]) eK.spec (.r (.two (.l (.loop ⟨[(0, (false, (.bor (.own .h))))], rg 11 11, [], []⟩ [(.ext 0, ⟨[(0, (false, (.bor (.own .h))))], rg 11 11, [], []⟩)] (.l (.l (.piece [(.nrm, ⟨[(19, vb)], rg 11 8, [], []⟩)] .none))))) (.two (.l (.loop ⟨[(0, (false, (.bor (.own .h))))], rg 22 17, [], []⟩ [(.ext 2, ⟨[(0, (false, (.bor (.own .h))))], rg 22 17, [], []⟩)] (.l (.l (.piece [(.nrm, ⟨[(33, vb)], rg 22 11, [], []⟩)] .none))))) (.r (.r (.r (.two (.piece [(.nrm, ⟨[(5, (false, (.bor (.own .h))))], rg 49 9, [], []⟩)] (.l (.piece [(.nrm, ⟨[(55, vb)], rg 49 6, [], []⟩)] .none))) (.r (.l (.piece [(.nrm, ⟨[(8, vb)], [9, 10] ++ rg 62 21 ++ [84, 85], [(7, (.box (.frz aH)))], []⟩), (.ret, ⟨[(3, vb)], [9, 10] ++ rg 62 4 ++ rg 67 17, [(1, (.box (.frz aH)))], []⟩)] (.l (.r (.r (.l (.piece [(.nrm, ⟨[(67, vb)], rg 68 8, [], []⟩)] .none))))))))))))))) := eqn Tryz.f65
theorem eval_run_apply.eq (G : bJ) : Eqn (Q [bt.spec, ca.spec, eval_run_expression.spec G, eval_run_list.spec G, cW.spec, bL.spec, ay.spec]) (eval_run_apply.g.sp 351 fun x => R.eval_run_apply G x.1 x.2.1 x.2.2.1 x.2.2.2) (.r (.r (.r (.r (.r (.two (.piece [(.nrm, ⟨[], rg 46 12, [(9, (.box (.frz ai)))], []⟩)] .none) (.r (.r (.two (.r (.l (.loop ⟨[(76, vi)], [17, 18] ++ rg 77 23, [(7, gK)], [6]⟩ [(.ext 1, ⟨[], [17, 18] ++ rg 76 24, [(7, gK)], [6]⟩)] .none))) (.r (.r (.r (.r (.l (.r (.l (.r (.r (.l (.piece [(.nrm, ⟨[(150, vb)], [151, 152], [], []⟩)] .none)))))))))))))))))))) := eqn Tryz.f351
theorem bF.eq : Eqn (Q [bH.spec, gP.spec, eL.spec, az.spec, iK.spec, iH.spec, fA.spec, gX.spec]) bF.spec (.r (.r (.l (.r (.l (.r (.two (.l (.l (.piece [(.nrm, ⟨[(24, vb)], rg 17 7, [], []⟩)] .none))) (.two (.piece [(.nrm, ⟨[(36, vb)], rg 37 4, [], []⟩)] .none) (.r (.two (.piece [(.nrm, ⟨[(47, vb)], rg 48 6, [], []⟩)] .none) (.r (.r (.r (.r (.r (.r (.r (.r (.r (.r (.r (.r (.r (.l (.piece [(.nrm, ⟨[(101, vb)], [102, 103], [], []⟩)] .none))))))))))))))))))))))))) := eqn Tryz.f17
theorem parse_parser_head.eq (G : bK) : Eqn (Q [ae.spec, parse_parser_arguments.spec G, parse_parser_head.spec G, parse_parser_member.spec G, bA.spec, parse_parser_primary.spec G, aI.spec]) (parse_parser_head.g.sp 403 fun x => R.parse_parser_head G x) (.r (.r (.r (.l (.l (.loop ⟨[(4, vb)], rg 13 7, [(0, aF), (4, (.box (.frz (.rose aB))))], []⟩ [(.ext 0, ⟨[], [4] ++ rg 13 7, [(0, aF), (4, (.box (.frz (.rose aB))))], []⟩)] .none)))))) := eqn Tryz.f403
def eX.ann : Ann := (.r (.l (.r (.l (.two (.piece [(.nrm, ⟨[(6, vb)], rg 7 5, [], []⟩)] .none) (.r (.l (.piece [(.nrm, ⟨[(15, vb)], rg 16 4, [], []⟩)] .none))))))))
theorem eX.eq_ (g_lex_Name : type_of% R.il) (g_lex_Run : type_of% R.jS) (g_slices_Contains_string : type_of% R.aN) : Eqn ({ P := Tryz.prog, specs := [(il.g.sp 128 fun x => g_lex_Name x), (jS.g.sp 129 fun x => g_lex_Run x), (aN.g.sp 131 fun x => g_slices_Contains_string x.1 x.2)], ety := nX Tryz.prog owned, inls := [w4 130 (mb.env Tryz.prog) Tryz.f130 .none] } : Env) (eX.g.sp 72 fun x => Res.given (eX.g.i x) (Res.bind (α := Bool) (Res.br (x.1 == 7) (Res.ok ((x.1 == 7))) (Res.br (x.1 == 18) (Res.ok ((x.1 == 18))) (Res.br (x.1 == 19) (Res.ok ((x.1 == 19))) (Res.br (x.1 == 20) (Res.ok ((x.1 == 20))) (Res.ok ((x.1 == 33))))))) fun x1 => Res.br x1 (Res.bind (g_lex_Name x.2.1) fun r2 => Res.ok (r2)) (Res.bind (α := Bool) (Res.br (x.1 == 12) (Res.ok ((x.1 == 12))) (Res.br (x.1 == 13) (Res.ok ((x.1 == 13))) (Res.br (x.1 == 17) (Res.ok ((x.1 == 17))) (Res.ok ((x.1 == 41)))))) fun x3 => Res.br x3 (Res.br (x.2.1 == ([] : List UInt8)) (Res.ok (true)) (Res.bind (g_lex_Name x.2.1) fun r4 => Res.ok (r4))) (Res.br (x.1 == 52) (Res.bind (g_lex_Run x.2.1) fun r5 => Res.ok (r5)) (Res.br (x.1 == 43) (Res.bind (g_slices_Contains_string [[45], [43], [33], [126], [116, 121, 112, 101, 111, 102], [118, 111, 105, 100]] x.2.1) fun r6 => Res.ok (r6)) (Res.br (x.1 == 44) (Res.br (x.1 == 44) (Res.bind (g_slices_Contains_string [[43, 43], [45, 45]] x.2.1) fun r7 => Res.ok (r7)) (Res.br (x.1 == 46) (Res.bind (g_slices_Contains_string [[43], [45], [42], [47], [37], [38], [124], [94], [60, 60], [62, 62], [62, 62, 62], [60], [62], [60, 61], [62, 61], [61, 61], [33, 61], [61, 61, 61], [33, 61, 61], [105, 110]] x.2.1) fun r8 => Res.ok (r8)) (Res.br (x.1 == 47) (Res.bind (g_slices_Contains_string [[38, 38], [124, 124], [63, 63]] x.2.1) fun r9 => Res.ok (r9)) (Res.br (x.1 == 49) (Res.bind (g_slices_Contains_string [[61], [43, 61], [45, 61], [42, 61], [47, 61], [37, 61], [38, 61], [124, 61], [94, 61], [60, 60, 61], [62, 62, 61], [62, 62, 62, 61]] x.2.1) fun r10 => Res.ok (r10)) (Res.ok ((x.2.1 == ([] : List UInt8)))))))) (Res.br (x.1 == 45) (Res.bind (g_slices_Contains_string [[43, 43], [45, 45]] x.2.1) fun r11 => Res.ok (r11)) (Res.br (x.1 == 46) (Res.bind (g_slices_Contains_string [[43], [45], [42], [47], [37], [38], [124], [94], [60, 60], [62, 62], [62, 62, 62], [60], [62], [60, 61], [62, 61], [61, 61], [33, 61], [61, 61, 61], [33, 61, 61], [105, 110]] x.2.1) fun r12 => Res.ok (r12)) (Res.br (x.1 == 47) (Res.bind (g_slices_Contains_string [[38, 38], [124, 124], [63, 63]] x.2.1) fun r13 => Res.ok (r13)) (Res.br (x.1 == 49) (Res.bind (g_slices_Contains_string [[61], [43, 61], [45, 61], [42, 61], [47, 61], [37, 61], [38, 61], [124, 61], [94, 61], [60, 60, 61], [62, 62, 61], [62, 62, 62, 61]] x.2.1) fun r14 => Res.ok (r14)) (Res.ok ((x.2.1 == ([] : List UInt8)))))))))))))) eX.ann := eqn Tryz.f72
theorem eX.eq : Eqn ({ P := Tryz.prog, specs := [il.spec, jS.spec, aN.spec], ety := nX Tryz.prog owned, inls := [w4 130 (mb.env Tryz.prog) Tryz.f130 .none] } : Env) eX.spec eX.ann := eX.eq_ R.il R.jS R.aN
theorem ej.eq : Eqn (Q []) ej.spec (.r (.l (.r (.l (.two (.piece [(.nrm, ⟨[(4, vb)], [5, 6], [], []⟩)] .none) (.r (.two (.piece [(.nrm, ⟨[(7, vb)], [8, 9], [], []⟩)] .none) (.r (.two (.piece [(.nrm, ⟨[(10, vb)], [11, 12], [], []⟩)] .none) (.r (.l (.piece [(.nrm, ⟨[(13, vb)], [14, 15], [], []⟩)] .none)))))))))))) := eqn Tryz.f21
theorem aW.eq : Eqn (Q [ec.spec]) aW.spec (.r (.l (.r (.l (.loop ⟨[(8, vi)], [4, 5] ++ rg 9 10, [], []⟩ [(.ext 0, ⟨[], [4, 5] ++ rg 8 11, [], []⟩), (.ret, ⟨[(4, vi)], [5] ++ rg 8 11, [], []⟩)] .none))))) := eqn Tryz.f175
theorem iK.eq : Eqn (Q [cE.spec, jG.spec, dG.spec]) iK.spec (.r (.r (.two (.l (.r (.r (.l (.piece [(.nrm, ⟨[(24, vb)], rg 25 7, [], []⟩)] .none))))) (.r (.l (.piece [(.nrm, ⟨[(11, vi)], rg 38 13, [], []⟩)] .none)))))) := eqn Tryz.f49
theorem cC.eq : Eqn (Q []) cC.spec (.r (.l (.r (.l (.loop ⟨[(8, vi)], [4, 5] ++ rg 9 10, [], []⟩ [(.ext 0, ⟨[], [4, 5] ++ rg 8 11, [], []⟩), (.ret, ⟨[(4, vi)], [5] ++ rg 8 11, [], []⟩)] .none))))) := eqn Tryz.f204
theorem bc.eq : Eqn (Q []) bc.spec (.r (.l (.loop ⟨[(2, vi), (3, vi)], rg 7 21, [(0, (.own .y))], []⟩ [(.ext 0, ⟨[], [2, 3] ++ rg 7 21, [(0, (.own .y))], []⟩)] .none))) := eqn Tryz.f125
theorem parse_parser_arguments.eq (G : bK) : Eqn (Q [parse_parser_list.spec G, aS.spec]) (parse_parser_arguments.g.sp 404 fun x => R.parse_parser_arguments G x) .none := eqn Tryz.f404
theorem gT.eq : Eqn (Q [iA.spec, iE.spec, cO.spec, cn.spec, gG.spec]) gT.spec .none := eqn Tryz.f127
theorem fx.eq : Eqn (Q [cE.spec, cV.spec, fD.spec, aN.spec]) fx.spec .none := eqn Tryz.f336
theorem eB.eq : Eqn (Q [bg.spec, eQ.spec, eC.spec]) eB.spec .none := eqn Tryz.f18
theorem bh.eq : Eqn (Q [cC.spec]) bh.spec .none := eqn Tryz.f174
theorem cN.eq : Eqn (Q [cj.spec, dk.spec]) cN.spec .none := eqn Tryz.f10
theorem cK.eq : Eqn (Q [cr.spec]) cK.spec .none := eqn Tryz.f202
theorem gq.eq : Eqn (Q [bH.spec, fO.spec]) gq.spec .none := eqn Tryz.f20
theorem il.eq : Eqn (Q [jS.spec, ij.spec]) il.spec .none := eqn Tryz.f128
theorem cJ.eq : Eqn (Q [gn 70 (.int .u16)]) cJ.spec .none := eqn Tryz.f82
theorem gR.eq : Eqn (Q [ea.spec]) gR.spec .none := eqn Tryz.f104
theorem eA.eq : Eqn (Q []) eA.spec .none := eqn Tryz.f187
theorem gx.eq : Eqn (Q []) gx.spec .none := eqn Tryz.f358
theorem bS.eq : Eqn (Q []) bS.spec .none := eqn Tryz.f102
theorem bt.eq : Eqn (Q []) bt.spec .none := eqn Tryz.f367
end Go.Mach
set_option linter.unusedVariables false
set_option maxRecDepth 100000
namespace Go.Mach
open Go.Proofs
theorem cL.eq : Eqn (Q [ah.spec, cW.spec, bL.spec, cU.spec, di.spec, aq.spec]) cL.spec (.r (.r (.r (.two (.piece [(.nrm, ⟨[(10, vb)], rg 29 8, [], []⟩)] .none) (.two (.piece [(.nrm, ⟨[], [11, 12] ++ rg 37 10 ++ rg 49 11, [(2, aM), (7, (.box (.seq .i (.seq .i (.seq (.own (.frz bR)) (.seq (.own (.frz bG)) (.seq .s (.seq .i (.seq .i (.seq (.seq .i (.seq (.frz aH) (.seq (.seq .b (.own .w)) (.seq (.own .h) .i)))) (.seq .i (.seq .i (.seq .i (.seq .i (.own .y)))))))))))))))], [0, 1]⟩), (.ret, ⟨[(7, vi)], [11, 12] ++ rg 37 12, [(2, aM), (4, (.box (.seq .i (.seq (.frz aH) (.seq (.seq .b (.own .w)) (.seq (.own .h) .i))))))], [0, 1]⟩)] .none) (.r (.two (.piece [(.nrm, ⟨[], rg 63 13, [(7, (.box kL))], [11, 12, 13, 14, 15]⟩)] (.l (.l (.piece [(.nrm, ⟨[(63, vb)], rg 64 5, [], []⟩)] .none)))) (.r (.l (.l (.piece [(.nrm, ⟨[(86, vb)], rg 82 4, [], []⟩)] .none))))))))))) := eqn Tryz.f195
theorem eval_run_decls.eq (G : bJ) : Eqn (Q [eval_run_expression.spec G, cU.spec]) (eval_run_decls.g.sp 251 fun x => R.eval_run_decls G x.1 x.2.1 x.2.2) (.r (.l (.r (.l (.loop ⟨[(15, vi)], rg 8 5 ++ rg 16 42, [(2, aM)], [0, 1]⟩ [(.ext 0, ⟨[], rg 8 5 ++ rg 15 43, [(2, aM)], [0, 1]⟩), (.ret, ⟨[], rg 8 5 ++ rg 15 43, [(2, aM), (4, (.box (.frz cB)))], [0, 1]⟩)] (.r (.r (.l (.l (.r (.r (.r (.l (.piece [(.nrm, ⟨[], [11, 12] ++ rg 27 16 ++ [46], [(2, aM), (11, (.box (.frz aA)))], [5, 6]⟩), (.ret, ⟨[], [11, 12] ++ rg 27 19, [(2, aM), (4, (.box (.frz cB)))], [5, 6]⟩)] .none)))))))))))))) := eqn Tryz.f251
theorem gP.eq : Eqn (Q [gf.spec, bH.spec, cA.spec, eL.spec, eF.spec, gW.spec, fO.spec]) gP.spec (.r (.r (.two (.l (.r (.r (.l (.piece [(.nrm, ⟨[(21, vb)], rg 22 6, [], []⟩)] .none))))) (.r (.two (.piece [(.nrm, ⟨[], rg 38 7, [(0, (.box (.frz aA))), (1, (.box (.frz aA)))], []⟩)] .none) (.l (.l (.r (.r (.two (.piece [(.nrm, ⟨[(54, vb)], rg 55 8, [], []⟩)] .none) (.r (.l (.piece [(.nrm, ⟨[(68, vb)], rg 69 8, [], []⟩)] .none))))))))))))) := eqn Tryz.f53
theorem dn.eq : Eqn (Q [cA.spec, az.spec, ej.spec, bt.spec, ew.spec, eZ.spec, aE.spec, ay.spec, gm.spec]) dn.spec (.r (.r (.r (.r (.r (.two (.piece [(.nrm, ⟨[(15, vb)], rg 92 6, [], []⟩)] .none) (.l (.l (.l (.piece [(.nrm, ⟨[(98, vb)], rg 99 26, [], []⟩)] (.two (.piece [(.nrm, ⟨[(98, vb)], rg 99 8, [], []⟩)] .none) (.r (.l (.piece [(.nrm, ⟨[(98, vb)], rg 107 11, [], []⟩)] .none)))))))))))))) := eqn Tryz.f388
theorem eval_run_builds.eq (G : bJ) : Eqn (Q [ct.spec, bt.spec, ah.spec, eval_run_does.spec G, aO.spec, dQ.spec, aE.spec, dm.spec, iI.spec]) (eval_run_builds.g.sp 347 fun x => R.eval_run_builds G x.1 x.2.1 x.2.2) (.r (.l (.r (.l (.two (.piece [(.nrm, ⟨[(12, vb)], rg 13 5, [], []⟩)] .none) (.r (.l (.piece [(.nrm, ⟨[(22, vb)], rg 23 5, [], []⟩)] .none)))))))) := eqn Tryz.f347
theorem parse_parser_both.eq (G : bK) : Eqn (Q [ak.spec, parse_parser_level.spec G, aI.spec]) (parse_parser_both.g.sp 333 fun x => R.parse_parser_both G x.1 x.2) (.r (.l (.l (.loop ⟨[], rg 5 7, [(0, aF), (1, (.box (.frz (.rose aB))))], []⟩ [(.ext 0, ⟨[], rg 5 7, [(0, aF), (1, (.box (.frz (.rose aB))))], []⟩)] .none)))) := eqn Tryz.f333
theorem fl.eq (fu : Nat) : Eqn (Q [(fl.spec fu)]) (fl.g.sp 212 fun x => R.fl (fu + 1) x.1 x.2) (.r (.r (.r (.r (.l (.r (.l (.loop ⟨[(6, (false, (.own .i))), (28, vi)], [8] ++ rg 29 10, [(1, pE)], [4]⟩ [(.ext 0, ⟨[(6, (false, (.own .i)))], [8] ++ rg 28 11, [(1, pE)], [4]⟩)] .none)))))))) := eqn Tryz.f212
theorem af.eq : Eqn (Q [fb.spec]) af.spec (.r (.l (.r (.l (.loop ⟨[(8, vi)], [4, 5] ++ rg 9 10, [], []⟩ [(.ext 0, ⟨[], [4, 5] ++ rg 8 11, [], []⟩), (.ret, ⟨[(4, vi)], [5] ++ rg 8 11, [], []⟩)] .none))))) := eqn Tryz.f213
theorem gv.eq : Eqn (Q [aN.spec]) gv.spec (.r (.l (.r (.l (.loop ⟨[(7, vi)], [2, 3, 4] ++ rg 8 10, [], []⟩ [(.ext 0, ⟨[], [2, 3, 4] ++ rg 7 11, [], []⟩), (.ret, ⟨[(2, vb)], [3, 4] ++ rg 7 11, [], []⟩)] .none))))) := eqn Tryz.f137
theorem bI.eq : Eqn (Q []) bI.spec (.r (.l (.r (.l (.loop ⟨[(8, vi)], [4, 5] ++ rg 9 10, [], []⟩ [(.ext 0, ⟨[], [4, 5] ++ rg 8 11, [], []⟩), (.ret, ⟨[(4, vi)], [5] ++ rg 8 11, [], []⟩)] .none))))) := eqn Tryz.f184
theorem eval_run_callee.eq (G : bJ) : Eqn (Q [eval_run_arguments.spec G, eval_run_call.spec G, eval_run_called.spec G]) (eval_run_callee.g.sp 327 fun x => R.eval_run_callee G x.1 x.2.1 x.2.2) .none := eqn Tryz.f327
theorem eval_run_expression.eq (G : bJ) : Eqn (Q [bo.spec, eval_run_value.spec G]) (eval_run_expression.g.sp 249 fun x => R.eval_run_expression G x.1 x.2.1 x.2.2) .none := eqn Tryz.f249
theorem eN.eq : Eqn (Q [bg.spec, jM.spec, aO.spec, du.spec, aE.spec]) eN.spec .none := eqn Tryz.f352
theorem iu.eq : Eqn (Q [gm.spec]) iu.spec (.r (.l (.r (.l (.piece [(.nrm, ⟨[(13, vb)], rg 6 7, [], []⟩)] .none))))) := eqn Tryz.f390
theorem dH.eq : Eqn (Q [aw.spec]) dH.spec .none := eqn Tryz.f268
theorem aN.eq : Eqn (Q [bI.spec]) aN.spec .none := eqn Tryz.f131
theorem ew.eq : Eqn (Q [dM.spec, ay.spec]) ew.spec .none := eqn Tryz.f413
theorem aS.eq : Eqn (Q [aI.spec]) aS.spec .none := eqn Tryz.f271
theorem dp.eq : Eqn (Q [bN.spec]) dp.spec .none := eqn Tryz.f364
theorem iY.eq : Eqn (Q [bd.spec]) iY.spec .none := eqn Tryz.f91
theorem jt.eq : Eqn (Q [jH.spec, iO.spec]) jt.spec .none := eqn Tryz.f87
theorem aK.eq : Eqn (Q []) aK.spec .none := eqn Tryz.f210
theorem jA.eq : Eqn (Q [iM.spec]) jA.spec .none := eqn Tryz.f167
theorem fF.eq : Eqn (Q []) fF.spec .none := eqn Tryz.f182
theorem dD.eq : Eqn (Q []) dD.spec .none := eqn Tryz.f107
theorem jx.eq : Eqn (Q []) jx.spec .none := eqn Tryz.f44
end Go.Mach
set_option linter.unusedVariables false
set_option maxRecDepth 100000
namespace Go.Mach
open Go.Proofs
theorem gl.eq : Eqn (Q []) gl.spec (.r (.r (.l (.r (.l (.loop ⟨[(3, (false, (.own .i))), (10, vi)], [2, 4, 5, 6] ++ rg 11 59, [], []⟩ [(.ext 0, ⟨[(3, (false, (.own .i)))], [2, 4, 5, 6] ++ rg 10 60, [], []⟩), (.ret, ⟨[(2, vb)], rg 3 4 ++ rg 10 60, [], []⟩)] (.r (.r (.l (.l (.r (.two (.piece [(.nrm, ⟨[(3, (false, (.own .i)))], rg 15 20, [], [2]⟩), (.ret, ⟨[(2, vb)], rg 15 15, [], []⟩)] (.r (.l (.l (.l (.piece [(.nrm, ⟨[(29, vb)], rg 17 12, [], []⟩)] .none)))))) (.r (.l (.loop ⟨[(3, (false, (.own .i))), (6, vi)], [2] ++ rg 39 30, [], [5]⟩ [(.ext 2, ⟨[(3, (false, (.own .i)))], [2, 6] ++ rg 39 30, [], [5]⟩), (.ret, ⟨[(2, vb)], [3, 6] ++ rg 39 30, [], [5]⟩)] (.r (.l (.l (.l (.l (.piece [(.nrm, ⟨[(60, vb)], rg 43 17, [], []⟩)] .none))))))))))))))))))))) := eqn Tryz.f38
theorem ca.eq : Eqn (Q [cL.spec, bL.spec]) ca.spec (.r (.l (.r (.l (.loop ⟨[(25, vi)], [7, 9, 10, 12, 13, 14] ++ rg 26 68, [(2, aM)], [0, 1]⟩ [(.ext 0, ⟨[], [7, 9, 10, 12, 13, 14] ++ rg 25 69, [(2, aM)], [0, 1]⟩), (.ret, ⟨[(7, vi)], [9, 10, 12, 13, 14] ++ rg 25 69, [(2, aM), (4, (.box (.frz aA)))], [0, 1]⟩)] (.r (.r (.l (.l (.r (.r (.r (.l (.two (.piece [(.nrm, ⟨[(39, vb)], [40, 41], [], []⟩)] .none) (.l (.r (.l (.loop ⟨[(45, vi)], [12] ++ rg 46 24, [(7, gK)], [6]⟩ [(.ext 3, ⟨[], [12] ++ rg 45 25, [(7, gK)], [6]⟩)] .none)))))))))))))))))) := eqn Tryz.f145
theorem eval_run_value.eq (G : bJ) : Eqn (Q [eT.spec, cE.spec, cJ.spec, az.spec, eval_run_array.spec G, aO.spec, cL.spec, eval_run_operation.spec G, ey.spec]) (eval_run_value.g.sp 287 fun x => R.eval_run_value G x.1 x.2.1 x.2.2) (.r (.r (.l (.r (.l (.r (.r (.r (.r (.r (.r (.r (.r (.two (.piece [(.nrm, ⟨[(43, vb)], [44, 45], [], []⟩)] .none) (.r (.r (.r (.r (.r (.r (.r (.r (.r (.l (.piece [(.nrm, ⟨[(82, vb)], [83, 84], [], []⟩)] .none))))))))))))))))))))))))) := eqn Tryz.f287
theorem fE.eq : Eqn (Q [gj.spec, gL.spec, gV.spec, fY.spec]) fE.spec (.r (.r (.r (.l (.r (.l (.loop ⟨[(7, (false, (.own .w))), (8, vi)], [9] ++ rg 16 33, [(2, (.own .w))], []⟩ [(.ext 0, ⟨[(7, (false, (.own .w)))], [8, 9] ++ rg 16 33, [(2, (.own .w))], []⟩)] (.r (.l (.l (.r (.l (.loop ⟨[(7, (false, (.own .w))), (9, vi)], rg 20 29, [(2, (.own .w))], [3]⟩ [(.ext 2, ⟨[(7, (false, (.own .w)))], [9] ++ rg 20 29, [(2, (.own .w))], [3]⟩)] .none))))))))))))) := eqn Tryz.f201
theorem fa.eq : Eqn (Q [cn.spec, gG.spec, cf.spec, gu.spec, gl.spec]) fa.spec (.r (.two (.l (.piece [(.nrm, ⟨[(26, vb)], rg 4 22, [], []⟩)] .none)) (.l (.r (.l (.loop ⟨[(30, vi)], [2, 3] ++ rg 31 29, [], []⟩ [(.ext 0, ⟨[], [2, 3] ++ rg 30 30, [], []⟩), (.ret, ⟨[(2, vb)], [3] ++ rg 30 30, [], []⟩)] (.r (.r (.l (.l (.r (.l (.piece [(.nrm, ⟨[(58, vb)], rg 33 25, [], []⟩)] .none))))))))))))) := eqn Tryz.f14
theorem eH.eq : Eqn (Q []) eH.spec (.r (.r (.r (.l (.r (.l (.loop ⟨[(17, vi)], [4, 5, 7] ++ rg 18 17, [(2, (.own .i))], []⟩ [(.ext 0, ⟨[], [4, 5, 7] ++ rg 17 18, [(2, (.own .i))], []⟩)] (.r (.r (.l (.l (.r (.r (.l (.loop ⟨[(25, vi)], [7] ++ rg 26 8, [(2, (.own .i))], []⟩ [(.ext 2, ⟨[], [7] ++ rg 25 9, [(2, (.own .i))], []⟩)] .none))))))))))))))) := eqn Tryz.f77
theorem cq.eq : Eqn (Q [fe.spec, fL.spec, bF.spec, eB.spec, cN.spec, ff.spec, bW.spec, dO.spec, fa.spec]) cq.spec (.r (.r (.r (.r (.l (.l (.piece [(.nrm, ⟨[(52, vb)], rg 28 24, [], []⟩)] .none))))))) := eqn Tryz.f3
theorem fy.eq : Eqn (Q []) fy.spec (.r (.r (.l (.r (.l (.loop ⟨[(4, (false, (.own .y))), (9, vi)], [2, 3, 6] ++ rg 10 11, [], []⟩ [(.ext 0, ⟨[(4, (false, (.own .y)))], [2, 3, 6] ++ rg 9 12, [], []⟩), (.ret, ⟨[(2, vs), (3, vb)], [4, 6] ++ rg 9 12, [], []⟩)] .none)))))) := eqn Tryz.f112
theorem iG.eq : Eqn (Q [jF.spec, jr.spec, jm.spec, jo.spec, jv.spec, eT.spec, eD.spec]) iG.spec (.r (.r (.r (.l (.piece [(.nrm, ⟨[(9, vi)], rg 47 8, [(5, (.box (.frz bC)))], []⟩)] .none))))) := eqn Tryz.f84
theorem gj.eq : Eqn (Q [iR.spec]) gj.spec (.r (.r (.l (.r (.l (.loop ⟨[(5, vi)], [4] ++ rg 20 25, [], []⟩ [(.ext 0, ⟨[], [4, 5] ++ rg 20 25, [], []⟩), (.ret, ⟨[(4, vi)], [5] ++ rg 20 25, [], []⟩)] .none)))))) := eqn Tryz.f200
theorem fU.eq : Eqn (Q []) fU.spec (.r (.r (.l (.r (.l (.loop ⟨[(5, (false, (.own .i))), (8, vi)], rg 9 5, [], []⟩ [(.ext 0, ⟨[(5, (false, (.own .i)))], rg 8 6, [], []⟩)] .none)))))) := eqn Tryz.f132
theorem eval_run_parts.eq (G : bJ) : Eqn (Q [cJ.spec, eval_run_expression.spec G, aq.spec]) (eval_run_parts.g.sp 340 fun x => R.eval_run_parts G x.1 x.2.1 x.2.2) .none := eqn Tryz.f340
theorem gm.eq : Eqn (Q [cz.spec, bS.spec]) gm.spec (.r (.l (.r (.l (.piece [(.nrm, ⟨[(12, vb)], rg 5 7, [], []⟩)] .none))))) := eqn Tryz.f410
theorem jF.eq : Eqn (Q [gj.spec, fw.spec, gV.spec, cD.spec, eP.spec, iz.spec]) jF.spec .none := eqn Tryz.f149
theorem jO.eq : Eqn (Q [dI.spec, er.spec, ee.spec]) jO.spec .none := eqn Tryz.f75
theorem eL.eq : Eqn (Q [bH.spec, iW.spec, fO.spec]) eL.spec .none := eqn Tryz.f52
theorem bx.eq : Eqn (Q [b9.spec]) bx.spec .none := eqn Tryz.f387
theorem a8.eq : Eqn (Q [aK.spec]) a8.spec .none := eqn Tryz.f242
theorem eh.eq : Eqn (Q [iM.spec, ja.spec]) eh.spec .none := eqn Tryz.f163
theorem fk.eq : Eqn (Q [eS.spec]) fk.spec .none := eqn Tryz.f343
theorem cz.eq : Eqn (Q [gd.spec, dU.spec]) cz.spec .none := eqn Tryz.f100
theorem dw.eq : Eqn (Q []) dw.spec .none := eqn Tryz.f247
theorem bU.eq : Eqn (Q []) bU.spec .none := eqn Tryz.f215
theorem gO.eq : Eqn (Q []) gO.spec .none := eqn Tryz.f116
theorem cu.eq : Eqn (Q []) cu.spec .none := eqn Tryz.f154
theorem jY.eq : Eqn (Q []) jY.spec .none := eqn Tryz.f79
end Go.Mach
set_option linter.unusedVariables false
set_option maxRecDepth 100000
namespace Go.Mach
open Go.Proofs
theorem eval_run_host.eq (G : bJ) : Eqn (Q [cA.spec, cJ.spec, bg.spec, eE.spec, dM.spec, aO.spec, aE.spec, ay.spec]) (eval_run_host.g.sp 389 fun x => R.eval_run_host G x.1 x.2.1 x.2.2) (.r (.r (.two (.piece [(.nrm, ⟨[], rg 9 4 ++ rg 17 7 ++ rg 28 23 ++ rg 55 7 ++ rg 67 9 ++ rg 81 7, [(5, (.box (.frz da)))], []⟩), (.ret, ⟨[(7, vi)], rg 9 6 ++ [17] ++ rg 19 9 ++ rg 31 24 ++ [60, 61] ++ rg 67 14 ++ [83, 84] ++ rg 86 14, [(2, aM), (4, (.box (.frz aA)))], [0, 1]⟩)] (.r (.l (.r (.r (.r (.l (.r (.l (.l (.piece [(.nrm, ⟨[(50, vb)], rg 43 7, [], []⟩)] .none))))))))))) (.r (.l (.l (.r (.r (.r (.r (.l (.piece [(.nrm, ⟨[(123, vb)], rg 124 8, [], []⟩)] .none)))))))))))) := eqn Tryz.f389
theorem cw.eq : Eqn (Q [dh.spec, eO.spec, fD.spec]) cw.spec (.r (.r (.two (.r (.l (.loop ⟨[(1, (false, (.own .s))), (13, vi)], [3, 5] ++ rg 14 19, [], [0]⟩ [(.ext 0, ⟨[(1, (false, (.own .s)))], [3, 5] ++ rg 13 20, [], [0]⟩)] (.r (.r (.l (.l (.r (.r (.l (.loop ⟨[(1, (false, (.own .s))), (20, vi)], [5] ++ rg 21 11, [], [4]⟩ [(.ext 2, ⟨[(1, (false, (.own .s)))], [5] ++ rg 20 12, [], [4]⟩)] .none))))))))))) (.r (.l (.r (.l (.loop ⟨[(1, (false, (.own .s))), (38, vi)], [7] ++ rg 39 11, [], [6]⟩ [(.ext 4, ⟨[(1, (false, (.own .s)))], [7] ++ rg 38 12, [], [6]⟩)] .none)))))))) := eqn Tryz.f372
theorem parse_parser_list.eq (G : bK) : Eqn (Q [parse_parser_assign.spec G, bM.spec, aS.spec, aI.spec]) (parse_parser_list.g.sp 426 fun x => R.parse_parser_list G x.1 x.2) (.r (.r (.r (.l (.loop ⟨[(5, (false, (.own (.frz (.rose aB)))))], [4] ++ rg 10 16, [(0, aF)], []⟩ [(.ret, ⟨[(4, (false, (.own (.frz (.rose aB)))))], [5] ++ rg 10 16, [(0, aF)], []⟩)] (.l (.r (.l (.l (.piece [(.nrm, ⟨[(22, vb)], rg 15 7, [(0, aF)], []⟩)] .none)))))))))) := eqn Tryz.f426
theorem cc.eq : Eqn (Q [ak.spec, bM.spec, a8.spec, aS.spec, aI.spec]) cc.spec (.r (.r (.r (.r (.l (.loop ⟨[(3, (false, (.own (.frz (.rose aB)))))], [2] ++ rg 9 16, [(0, aF)], []⟩ [(.ret, ⟨[(2, (false, (.own (.frz (.rose aB)))))], [3] ++ rg 9 16, [(0, aF)], []⟩)] (.l (.r (.l (.l (.piece [(.nrm, ⟨[(21, vb)], rg 15 6, [(0, aF)], []⟩)] .none))))))))))) := eqn Tryz.f277
theorem parse_parser_statement.eq (G : bK) : Eqn (Q [eJ.spec, ae.spec, ak.spec, aj.spec, aK.spec, bA.spec, parse_parser_simple.spec G, parse_parser_statement.spec G, aI.spec, parse_parser_word.spec G]) (parse_parser_statement.g.sp 244 fun x => R.parse_parser_statement G x) (.r (.r (.l (.l (.l (.piece [(.nrm, ⟨[(6, vb)], rg 7 8, [], []⟩)] .none)))))) := eqn Tryz.f244
theorem parse_parser_item.eq (G : bK) : Eqn (Q [eJ.spec, parse_parser_declares.spec G, bj.spec, a8.spec, aK.spec, parse_parser_statement.spec G, aI.spec]) (parse_parser_item.g.sp 211 fun x => R.parse_parser_item G x) (.r (.l (.r (.l (.l (.piece [(.nrm, ⟨[(8, vb)], rg 9 6, [], []⟩)] .none)))))) := eqn Tryz.f211
theorem jl.eq : Eqn (Q [cz.spec, cu.spec, dD.spec, bu.spec, dU.spec, dN.spec, eI.spec, dZ.spec]) jl.spec (.r (.r (.l (.l (.two (.piece [(.nrm, ⟨[(10, vb)], rg 11 14, [], []⟩)] .none) (.r (.l (.piece [(.nrm, ⟨[(26, vb)], rg 27 6, [], []⟩)] .none)))))))) := eqn Tryz.f90
theorem jH.eq : Eqn (Q [kn.spec, cz.spec, cu.spec, dD.spec, dU.spec]) jH.spec (.r (.r (.l (.l (.two (.piece [(.nrm, ⟨[(10, vb)], rg 11 21, [], []⟩)] .none) (.r (.r (.r (.r (.r (.l (.piece [(.nrm, ⟨[(41, vb)], rg 42 8, [], []⟩)] .none)))))))))))) := eqn Tryz.f86
theorem fB.eq : Eqn (Q [cV.spec, eE.spec, aO.spec, dp.spec, cy.spec]) fB.spec (.r (.l (.l (.r (.r (.r (.r (.l (.piece [(.nrm, ⟨[(37, vb)], rg 38 6, [], []⟩)] .none))))))))) := eqn Tryz.f400
theorem eC.eq : Eqn (Q []) eC.spec (.r (.r (.l (.r (.l (.loop ⟨[(5, vi)], [4] ++ rg 11 15, [], []⟩ [(.ext 0, ⟨[], [4, 5] ++ rg 11 15, [], []⟩), (.ret, ⟨[(4, vb)], [5] ++ rg 11 15, [], []⟩)] .none)))))) := eqn Tryz.f30
theorem iO.eq : Eqn (Q [cz.spec, iP.spec, dN.spec, bS.spec]) iO.spec (.r (.r (.l (.r (.l (.r (.r (.l (.piece [(.nrm, ⟨[(10, vb)], [11, 12], [], []⟩)] .none))))))))) := eqn Tryz.f57
theorem gI.eq : Eqn (Q [iM.spec, fO.spec, jB.spec, eh.spec]) gI.spec (.r (.l (.l (.l (.piece [(.nrm, ⟨[(8, vb)], rg 9 8, [], []⟩)] .none))))) := eqn Tryz.f92
theorem ja.eq : Eqn (Q [eY.spec]) ja.spec (.r (.r (.l (.piece [(.nrm, ⟨[(3, (false, (.frz (.int .u64))))], rg 6 4, [], []⟩)] .none)))) := eqn Tryz.f60
theorem gd.eq : Eqn (Q []) gd.spec (.r (.l (.r (.l (.r (.r (.l (.piece [(.nrm, ⟨[(15, vb)], rg 16 4, [], []⟩)] .none)))))))) := eqn Tryz.f36
theorem cX.eq : Eqn (Q [aX.spec]) cX.spec .none := eqn Tryz.f216
theorem dM.eq : Eqn (Q [gn 70 (.int .u16), bU.spec]) dM.spec .none := eqn Tryz.f391
theorem bE.eq : Eqn (Q [gF.spec]) bE.spec .none := eqn Tryz.f236
theorem aI.eq : Eqn (Q [bA.spec]) aI.spec .none := eqn Tryz.f241
theorem cW.eq : Eqn (Q [ah.spec]) cW.spec .none := eqn Tryz.f144
theorem gp.eq : Eqn (Q [bw.spec]) gp.spec .none := eqn Tryz.f118
theorem cG.eq : Eqn (Q [cE.spec]) cG.spec .none := eqn Tryz.f85
theorem bH.eq : Eqn (Q [fL.spec]) bH.spec .none := eqn Tryz.f46
theorem bN.eq : Eqn (Q []) bN.spec .none := eqn Tryz.f197
theorem eo.eq : Eqn (Q []) eo.spec .none := eqn Tryz.f121
theorem gE.eq : Eqn (Q []) gE.spec .none := eqn Tryz.f156
theorem cE.eq : Eqn (Q []) cE.spec .none := eqn Tryz.f27
end Go.Mach
