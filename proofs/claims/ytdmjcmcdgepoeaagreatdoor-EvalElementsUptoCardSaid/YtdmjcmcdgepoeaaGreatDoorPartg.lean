/-
  Proved here: the law renlaw12.EvalElements returns true for every input of the stated bulk and leaves its arguments as they were; no further condition.
  By an AI agent; no person has read it.
-/
import Derived.Test.YtdmjcmcdgepoeaaGreatDoorPartf
import Derived.KernelRfl
import Derived.Test.YtdmjcmcdgepoeaaGreatDoorProg
set_option linter.all false
set_option linter.deprecated false
set_option linter.unusedVariables false
set_option maxRecDepth 100000
namespace Go.Mach
open Go.Proofs
theorem parse_parser_unary.eq (G : bJ) : Eqn (Q [ae.spec, parse_parser_calls.spec G, bN.spec, aJ.spec, parse_parser_unary.spec G, jC.spec, eS.spec]) (parse_parser_unary.g.sp 310 fun x => R.parse_parser_unary G x) (.r (.r (.two (.piece [(.nrm, ⟨[], rg 8 12 ++ rg 33 4, [], []⟩), (.ret, ⟨[], [4] ++ rg 8 47 ++ rg 57 5, [(0, aF), (1, (.box ld))], []⟩)] (.two (.piece [(.nrm, ⟨[(15, vb)], rg 8 7, [], []⟩)] .none) (.l (.l (.r (.r (.r (.l (.r (.r (.l (.piece [(.nrm, ⟨[], rg 46 9, [], []⟩)] (.l (.piece [(.nrm, ⟨[(54, vb)], rg 46 8, [], []⟩)] .none)))))))))))))) (.r (.l (.r (.l (.piece [(.nrm, ⟨[(78, vb)], rg 66 12, [], []⟩)] .none)))))))) := eqn Tryz.f310
theorem ee.eq : Eqn (Q [cj.spec, bG.spec, aq.spec, aC.spec, dV.spec]) ee.spec (.r (.r (.r (.r (.r (.two (.piece [(.nrm, ⟨[(16, vi)], [15] ++ rg 44 10, [], []⟩), (.ret, ⟨[(11, vi)], [15, 16] ++ rg 44 15, [(2, aM), (5, (.box (.frz aA)))], [0, 1]⟩)] .none) (.l (.piece [(.nrm, ⟨[(16, vi)], rg 59 24 ++ rg 87 9, [], []⟩), (.ret, ⟨[(11, vi)], rg 59 28, [(2, aM), (5, (.box (.frz aA)))], [0, 1]⟩)] (.l (.l (.piece [(.nrm, ⟨[(59, vb)], rg 60 23, [], []⟩)] .none))))))))))) := eqn Tryz.f383
theorem er.eq : Eqn (Q [bh.spec, ah.spec, eV.spec]) er.spec (.r (.r (.l (.r (.l (.loop ⟨[(3, vb), (8, vi)], [2, 5] ++ rg 9 28, [], []⟩ [(.ext 0, ⟨[(3, vb)], [2, 5] ++ rg 8 29, [], []⟩), (.ret, ⟨[(2, vb)], [3, 5] ++ rg 8 29, [], []⟩)] (.r (.r (.l (.l (.r (.two (.piece [(.nrm, ⟨[(3, vb)], rg 12 5, [], []⟩)] .none) (.l (.l (.piece [(.nrm, ⟨[(17, vb)], rg 18 14, [], []⟩)] (.r (.r (.l (.piece [(.nrm, ⟨[(17, vb)], rg 20 6, [], []⟩)] .none))))))))))))))))))) := eqn Tryz.f83
theorem gH.eq : Eqn (Q [b9.spec, eU.spec, cL.spec, fK.spec, fC.spec]) gH.spec (.r (.two (.l (.piece [(.nrm, ⟨[(26, vb)], rg 4 22, [], []⟩)] .none)) (.l (.r (.l (.loop ⟨[(30, vi)], [2, 3] ++ rg 31 29, [], []⟩ [(.ext 0, ⟨[], [2, 3] ++ rg 30 30, [], []⟩), (.ret, ⟨[(2, vb)], [3] ++ rg 30 30, [], []⟩)] (.r (.r (.l (.l (.r (.l (.piece [(.nrm, ⟨[(58, vb)], rg 33 25, [], []⟩)] .none))))))))))))) := eqn Tryz.f12
def eX.ann : Ann := (.r (.l (.r (.l (.two (.piece [(.nrm, ⟨[(6, vb)], rg 7 5, [], []⟩)] .none) (.r (.l (.piece [(.nrm, ⟨[(15, vb)], rg 16 4, [], []⟩)] .none))))))))
theorem eX.eq_ (g_lex_Name : type_of% R.iL) (g_lex_Run : type_of% R.iw) (g_slices_Contains_string : type_of% R.aO) : Eqn ({ P := Tryz.prog, specs := [(iL.g.sp 99 fun x => g_lex_Name x), (iw.g.sp 100 fun x => g_lex_Run x), (aO.g.sp 102 fun x => g_slices_Contains_string x.1 x.2)], ety := lg Tryz.prog owned, inls := [wC 101 (mB.env Tryz.prog) Tryz.f101 .none] } : Env) (eX.g.sp 61 fun x => Res.given (eX.g.i x) (Res.bind (α := Bool) (Res.br (x.1 == 7) (Res.ok ((x.1 == 7))) (Res.br (x.1 == 18) (Res.ok ((x.1 == 18))) (Res.br (x.1 == 19) (Res.ok ((x.1 == 19))) (Res.br (x.1 == 20) (Res.ok ((x.1 == 20))) (Res.ok ((x.1 == 33))))))) fun x1 => Res.br x1 (Res.bind (g_lex_Name x.2.1) fun r2 => Res.ok (r2)) (Res.bind (α := Bool) (Res.br (x.1 == 12) (Res.ok ((x.1 == 12))) (Res.br (x.1 == 13) (Res.ok ((x.1 == 13))) (Res.br (x.1 == 17) (Res.ok ((x.1 == 17))) (Res.ok ((x.1 == 41)))))) fun x3 => Res.br x3 (Res.br (x.2.1 == ([] : List UInt8)) (Res.ok (true)) (Res.bind (g_lex_Name x.2.1) fun r4 => Res.ok (r4))) (Res.br (x.1 == 52) (Res.bind (g_lex_Run x.2.1) fun r5 => Res.ok (r5)) (Res.br (x.1 == 43) (Res.bind (g_slices_Contains_string [[45], [43], [33], [126], [116, 121, 112, 101, 111, 102], [118, 111, 105, 100]] x.2.1) fun r6 => Res.ok (r6)) (Res.br (x.1 == 44) (Res.br (x.1 == 44) (Res.bind (g_slices_Contains_string [[43, 43], [45, 45]] x.2.1) fun r7 => Res.ok (r7)) (Res.br (x.1 == 46) (Res.bind (g_slices_Contains_string [[43], [45], [42], [47], [37], [38], [124], [94], [60, 60], [62, 62], [62, 62, 62], [60], [62], [60, 61], [62, 61], [61, 61], [33, 61], [61, 61, 61], [33, 61, 61], [105, 110]] x.2.1) fun r8 => Res.ok (r8)) (Res.br (x.1 == 47) (Res.bind (g_slices_Contains_string [[38, 38], [124, 124], [63, 63]] x.2.1) fun r9 => Res.ok (r9)) (Res.br (x.1 == 49) (Res.bind (g_slices_Contains_string [[61], [43, 61], [45, 61], [42, 61], [47, 61], [37, 61], [38, 61], [124, 61], [94, 61], [60, 60, 61], [62, 62, 61], [62, 62, 62, 61]] x.2.1) fun r10 => Res.ok (r10)) (Res.ok ((x.2.1 == ([] : List UInt8)))))))) (Res.br (x.1 == 45) (Res.bind (g_slices_Contains_string [[43, 43], [45, 45]] x.2.1) fun r11 => Res.ok (r11)) (Res.br (x.1 == 46) (Res.bind (g_slices_Contains_string [[43], [45], [42], [47], [37], [38], [124], [94], [60, 60], [62, 62], [62, 62, 62], [60], [62], [60, 61], [62, 61], [61, 61], [33, 61], [61, 61, 61], [33, 61, 61], [105, 110]] x.2.1) fun r12 => Res.ok (r12)) (Res.br (x.1 == 47) (Res.bind (g_slices_Contains_string [[38, 38], [124, 124], [63, 63]] x.2.1) fun r13 => Res.ok (r13)) (Res.br (x.1 == 49) (Res.bind (g_slices_Contains_string [[61], [43, 61], [45, 61], [42, 61], [47, 61], [37, 61], [38, 61], [124, 61], [94, 61], [60, 60, 61], [62, 62, 61], [62, 62, 62, 61]] x.2.1) fun r14 => Res.ok (r14)) (Res.ok ((x.2.1 == ([] : List UInt8)))))))))))))) eX.ann := eqn Tryz.f61
theorem eX.eq : Eqn ({ P := Tryz.prog, specs := [iL.spec, iw.spec, aO.spec], ety := lg Tryz.prog owned, inls := [wC 101 (mB.env Tryz.prog) Tryz.f101 .none] } : Env) eX.spec eX.ann := eX.eq_ R.iL R.iw R.aO
theorem bG.eq : Eqn (Q []) bG.spec (.r (.l (.r (.l (.two (.piece [(.nrm, ⟨[(4, vb)], [5, 6], [], []⟩)] .none) (.r (.two (.piece [(.nrm, ⟨[(7, vb)], [8, 9], [], []⟩)] .none) (.r (.two (.piece [(.nrm, ⟨[(10, vb)], [11, 12], [], []⟩)] .none) (.r (.l (.piece [(.nrm, ⟨[(13, vb)], [14, 15], [], []⟩)] .none)))))))))))) := eqn Tryz.f11
theorem gG.eq : Eqn (Q []) gG.spec (.r (.l (.r (.l (.loop ⟨[(6, vi)], [2, 3] ++ rg 7 13, [], []⟩ [(.ext 0, ⟨[], [2, 3] ++ rg 6 14, [], []⟩), (.ret, ⟨[(2, vb)], [3] ++ rg 6 14, [], []⟩)] (.r (.r (.l (.l (.r (.l (.piece [(.nrm, ⟨[(18, vb)], rg 9 9, [], []⟩)] .none)))))))))))) := eqn Tryz.f115
theorem dJ.eq : Eqn ({ P := Tryz.prog, specs := [gp.spec, cM.spec, cy.spec], ety := lg Tryz.prog owned, inls := [wC 111 (mH.env Tryz.prog) Tryz.f111 .none 5] } : Env) dJ.spec .none := eqn Tryz.f416
theorem eY.eq : Eqn (Q [dq.spec]) eY.spec (.r (.two (.piece [(.nrm, ⟨[(5, vb)], rg 6 6, [], []⟩)] .none) (.l (.piece [(.nrm, ⟨[(0, (false, (.frz (.int .u64))))], [12, 13, 14], [], []⟩)] .none)))) := eqn Tryz.f51
theorem fD.eq : Eqn (Q []) fD.spec (.r (.r (.l (.r (.l (.loop ⟨[(5, (false, (.own .i))), (8, vi)], rg 9 5, [], []⟩ [(.ext 0, ⟨[(5, (false, (.own .i)))], rg 8 6, [], []⟩)] .none)))))) := eqn Tryz.f103
theorem eval_run_expression.eq (G : bU) : Eqn (Q [cE.spec, eval_run_value.spec G]) (eval_run_expression.g.sp 192 fun x => R.eval_run_expression G x.1 x.2.1 x.2.2) .none := eqn Tryz.f192
theorem dI.eq : Eqn (Q [bu.spec, hJ.spec, aQ.spec, cm.spec, aC.spec]) dI.spec .none := eqn Tryz.f307
theorem eZ.eq : Eqn (Q [fc.spec, bx.spec, cZ.spec, bR.spec, gW.spec]) eZ.spec .none := eqn Tryz.f295
theorem cq.eq : Eqn (Q [kD.spec, bx.spec, gW.spec, fG.spec]) cq.spec .none := eqn Tryz.f15
theorem bh.eq : Eqn (Q [cA.spec]) bh.spec .none := eqn Tryz.f124
theorem bD.eq : Eqn (Q [fZ.spec]) bD.spec .none := eqn Tryz.f179
theorem fJ.eq : Eqn (Q [aO.spec]) fJ.spec .none := eqn Tryz.f134
theorem aQ.eq : Eqn (Q [bY.spec]) aQ.spec .none := eqn Tryz.f258
theorem fh.eq : Eqn (Q [gI.spec, ff.spec]) fh.spec .none := eqn Tryz.f118
theorem ea.eq : Eqn (Q []) ea.spec .none := eqn Tryz.f104
theorem fH.eq : Eqn (Q []) fH.spec .none := eqn Tryz.f198
theorem aw.eq : Eqn (Q []) aw.spec .none := eqn Tryz.f14
theorem fc.eq : Eqn (Q []) fc.spec .none := eqn Tryz.f254
end Go.Mach
set_option linter.unusedVariables false
set_option maxRecDepth 100000
namespace Go.Mach
open Go.Proofs
theorem eval_run_does.eq (G : bU) : Eqn (Q [cg.spec, bu.spec, cS.spec, bn.spec, dh.spec, aQ.spec, dL.spec, eval_run_host.spec G, cp.spec, aC.spec, cD.spec, ch.spec, bt.spec]) (eval_run_does.g.sp 333 fun x => R.eval_run_does G x.1 x.2.1 x.2.2.1 x.2.2.2) (.r (.r (.l (.r (.l (.two (.piece [(.nrm, ⟨[(18, vb)], [19, 20], [], []⟩)] .none) (.r (.r (.r (.r (.r (.r (.r (.r (.r (.r (.two (.l (.l (.piece [(.nrm, ⟨[(79, vb)], rg 67 12, [], []⟩)] .none))) (.r (.r (.r (.r (.r (.r (.r (.r (.l (.piece [(.nrm, ⟨[(134, vb)], rg 135 5, [], []⟩)] .none))))))))))))))))))))))))))) := eqn Tryz.f333
theorem fG.eq : Eqn (Q [jN.spec, gf.spec, fX.spec, ep.spec, gu.spec, dx.spec]) fG.spec (.r (.r (.r (.r (.two (.piece [(.nrm, ⟨[(4, (false, (.frz (.list (.int .u16)))))], rg 21 9, [], []⟩)] (.l (.piece [(.nrm, ⟨[(27, vb)], rg 21 6, [], []⟩)] .none))) (.l (.l (.r (.l (.l (.l (.loop ⟨[(4, (false, (.frz (.list (.int .u16)))))], rg 33 11, [], []⟩ [(.ext 1, ⟨[(4, (false, (.frz (.list (.int .u16)))))], rg 33 11, [], []⟩)] (.l (.l (.piece [(.nrm, ⟨[(41, vb)], rg 33 8, [], []⟩)] .none))))))))))))))) := eqn Tryz.f47
theorem gu.eq : Eqn (Q [fi.spec]) gu.spec (.r (.two (.l (.loop ⟨[(0, (false, (.frz (.list (.int .u16)))))], rg 3 11, [], []⟩ [(.ext 0, ⟨[(0, (false, (.frz (.list (.int .u16)))))], rg 3 11, [], []⟩)] (.l (.l (.piece [(.nrm, ⟨[(11, vb)], rg 3 8, [], []⟩)] .none))))) (.l (.l (.loop ⟨[(0, (false, (.frz (.list (.int .u16)))))], rg 14 17, [], []⟩ [(.ext 2, ⟨[(0, (false, (.frz (.list (.int .u16)))))], rg 14 17, [], []⟩)] (.l (.l (.piece [(.nrm, ⟨[(25, vb)], rg 14 11, [], []⟩)] .none)))))))) := eqn Tryz.f71
theorem eg.eq : Eqn (Q [bx.spec, gr.spec]) eg.spec (.r (.r (.l (.r (.l (.r (.two (.l (.l (.piece [(.nrm, ⟨[(24, vb)], rg 17 7, [], []⟩)] .none))) (.two (.piece [(.nrm, ⟨[(36, vb)], rg 37 4, [], []⟩)] .none) (.r (.two (.piece [(.nrm, ⟨[(47, vb)], rg 48 6, [], []⟩)] .none) (.r (.r (.r (.r (.r (.r (.r (.r (.r (.r (.r (.r (.r (.l (.piece [(.nrm, ⟨[(101, vb)], [102, 103], [], []⟩)] .none))))))))))))))))))))))))) := eqn Tryz.f299
theorem parse_parser_both.eq (G : bJ) : Eqn (Q [ae.spec, parse_parser_level.spec G, aI.spec]) (parse_parser_both.g.sp 285 fun x => R.parse_parser_both G x.1 x.2) (.r (.l (.l (.loop ⟨[], rg 5 7, [(0, aF), (1, (.box (.frz (.rose aB))))], []⟩ [(.ext 0, ⟨[], rg 5 7, [(0, aF), (1, (.box (.frz (.rose aB))))], []⟩)] .none)))) := eqn Tryz.f285
theorem fR.eq (fu : Nat) : Eqn (Q [(fR.spec fu)]) (fR.g.sp 162 fun x => R.fR (fu + 1) x.1 x.2) (.r (.r (.r (.r (.l (.r (.l (.loop ⟨[(6, (false, (.own .i))), (28, vi)], [8] ++ rg 29 10, [(1, pP)], [4]⟩ [(.ext 0, ⟨[(6, (false, (.own .i)))], [8] ++ rg 28 11, [(1, pP)], [4]⟩)] .none)))))))) := eqn Tryz.f162
theorem aT.eq : Eqn (Q [eR.spec]) aT.spec (.r (.l (.r (.l (.loop ⟨[(8, vi)], [4, 5] ++ rg 9 10, [], []⟩ [(.ext 0, ⟨[], [4, 5] ++ rg 8 11, [], []⟩), (.ret, ⟨[(4, vi)], [5] ++ rg 8 11, [], []⟩)] .none))))) := eqn Tryz.f126
theorem gR.eq : Eqn (Q [aO.spec]) gR.spec (.r (.l (.r (.l (.loop ⟨[(7, vi)], [2, 3, 4] ++ rg 8 10, [], []⟩ [(.ext 0, ⟨[], [2, 3, 4] ++ rg 7 11, [], []⟩), (.ret, ⟨[(2, vb)], [3, 4] ++ rg 7 11, [], []⟩)] .none))))) := eqn Tryz.f90
theorem dn.eq : Eqn (Q []) dn.spec (.r (.r (.l (.r (.l (.loop ⟨[(5, vi)], [4] ++ rg 11 15, [], []⟩ [(.ext 0, ⟨[], [4, 5] ++ rg 11 15, [], []⟩), (.ret, ⟨[(4, vb)], [5] ++ rg 11 15, [], []⟩)] .none)))))) := eqn Tryz.f49
theorem jS.eq : Eqn (Q [fh.spec, ic.spec, eh.spec, dQ.spec]) jS.spec (.r (.r (.l (.r (.l (.r (.r (.l (.piece [(.nrm, ⟨[(10, vb)], [11, 12], [], []⟩)] .none))))))))) := eqn Tryz.f89
theorem eval_run_parts.eq (G : bU) : Eqn (Q [cg.spec, eval_run_expression.spec G, ah.spec]) (eval_run_parts.g.sp 293 fun x => R.eval_run_parts G x.1 x.2.1 x.2.2) .none := eqn Tryz.f293
theorem fx.eq : Eqn (Q [gZ.spec, gm.spec, cK.spec, b9.spec, eU.spec]) fx.spec .none := eqn Tryz.f98
theorem kj.eq : Eqn (Q [ff.spec, dQ.spec]) kj.spec (.r (.l (.l (.piece [(.nrm, ⟨[(9, vb)], rg 4 5, [], []⟩)] .none)))) := eqn Tryz.f351
theorem dX.eq : Eqn (Q [cf.spec, eH.spec, dn.spec]) dX.spec .none := eqn Tryz.f34
theorem aO.eq : Eqn (Q [bL.spec]) aO.spec .none := eqn Tryz.f102
theorem jC.eq : Eqn (Q [aO.spec, eM.spec]) jC.spec .none := eqn Tryz.f247
theorem cV.eq : Eqn (Q [iG.spec, aw.spec]) cV.spec .none := eqn Tryz.f18
theorem ec.eq : Eqn (Q [eZ.spec]) ec.spec .none := eqn Tryz.f353
theorem aa.eq : Eqn (Q []) aa.spec .none := eqn Tryz.f221
theorem eO.eq : Eqn (Q []) eO.spec .none := eqn Tryz.f130
theorem gQ.eq : Eqn (Q []) gQ.spec .none := eqn Tryz.f316
theorem il.eq : Eqn (Q []) il.spec .none := eqn Tryz.f172
theorem gE.eq : Eqn (Q []) gE.spec .none := eqn Tryz.f403
end Go.Mach
set_option linter.unusedVariables false
set_option maxRecDepth 100000
namespace Go.Mach
open Go.Proofs
theorem cw.eq : Eqn (Q [iY.spec]) cw.spec (.r (.r (.r (.r (.l (.l (.loop ⟨[], [3, 6, 7, 8] ++ rg 27 63, [(0, bc), (2, (.box (.seq .i (.seq .s (.seq (.own .h) (.seq (.frz aN) (.seq (.seq .b (.own .w)) (.seq .i .b))))))))], []⟩ [(.ext 0, ⟨[], [3, 6, 7, 8] ++ rg 27 63, [(0, bc)], [2]⟩), (.ret, ⟨[(3, vi)], [6, 7, 8] ++ rg 27 63, [(0, bc), (1, (.box (.seq .i (.seq .s (.seq (.own .h) (.seq (.frz aN) (.seq (.seq .b (.own .w)) (.seq .i .b))))))))], [2]⟩)] (.two (.l (.piece [(.nrm, ⟨[(50, vb)], rg 27 23, [], []⟩)] .none)) (.l (.r (.r (.r (.l (.piece [(.nrm, ⟨[], [72, 73], [], []⟩)] .none)))))))))))))) := eqn Tryz.f178
theorem fy.eq : Eqn (Q [gg 226 (.int .u8), gg 80 (.int .u16), me 112 224 cR, me 112 225 bK, eT.spec]) fy.spec (.r (.r (.two (.r (.l (.loop ⟨[(26, vi)], [3, 4] ++ rg 27 16, [(7, (.own (.frz cR)))], []⟩ [(.ext 0, ⟨[], [3, 4] ++ rg 26 17, [(7, (.own (.frz cR)))], []⟩)] .none))) (.l (.r (.l (.loop ⟨[(46, vi)], [5, 6] ++ rg 47 13, [(8, (.own (.frz bK)))], []⟩ [(.ext 2, ⟨[], [5, 6] ++ rg 46 14, [(8, (.own (.frz bK)))], []⟩)] .none))))))) := eqn Tryz.f188
theorem eG.eq : Eqn (Q [bu.spec, hJ.spec, aQ.spec, bf.spec, aC.spec, ak.spec, ah.spec, iI.spec, gO.spec]) eG.spec (.r (.r (.r (.r (.r (.r (.r (.l (.piece [(.nrm, ⟨[], [64, 65] ++ rg 70 5 ++ rg 79 14, [], []⟩), (.ret, ⟨[(7, vi)], rg 64 35 ++ rg 115 15, [(2, aM), (5, (.box (.frz aA)))], [0, 1]⟩)] (.r (.l (.r (.r (.r (.l (.l (.piece [(.nrm, ⟨[(92, vb)], rg 81 11, [], []⟩)] .none))))))))))))))))) := eqn Tryz.f322
theorem parse_parser_statement.eq (G : bJ) : Eqn (Q [eA.spec, aX.spec, ae.spec, aa.spec, aJ.spec, ay.spec, parse_parser_simple.spec G, parse_parser_statement.spec G, aI.spec, parse_parser_word.spec G]) (parse_parser_statement.g.sp 187 fun x => R.parse_parser_statement G x) (.r (.r (.l (.l (.l (.piece [(.nrm, ⟨[(6, vb)], rg 7 8, [], []⟩)] .none)))))) := eqn Tryz.f187
theorem dy.eq : Eqn (Q []) dy.spec (.r (.r (.r (.l (.r (.l (.loop ⟨[(17, vi)], [4, 5, 7] ++ rg 18 17, [(2, (.own .i))], []⟩ [(.ext 0, ⟨[], [4, 5, 7] ++ rg 17 18, [(2, (.own .i))], []⟩)] (.r (.r (.l (.l (.r (.r (.l (.loop ⟨[(25, vi)], [7] ++ rg 26 8, [(2, (.own .i))], []⟩ [(.ext 2, ⟨[], [7] ++ rg 25 9, [(2, (.own .i))], []⟩)] .none))))))))))))))) := eqn Tryz.f56
theorem gp.eq : Eqn (Q [bG.spec]) gp.spec (.r (.two (.l (.piece [(.nrm, ⟨[(18, vb)], rg 9 9, [], []⟩)] .none)) (.r (.l (.r (.l (.loop ⟨[(6, (false, (.frz (.int .u64)))), (21, vi)], [7, 8] ++ rg 22 12, [], []⟩ [(.ext 0, ⟨[(6, (false, (.frz (.int .u64))))], [7, 8] ++ rg 21 13, [], []⟩)] .none))))))) := eqn Tryz.f438
theorem aW.eq : Eqn (Q [fJ.spec]) aW.spec (.r (.l (.r (.l (.loop ⟨[(8, vi)], [4, 5] ++ rg 9 10, [], []⟩ [(.ext 0, ⟨[], [4, 5] ++ rg 8 11, [], []⟩), (.ret, ⟨[(4, vi)], [5] ++ rg 8 11, [], []⟩)] .none))))) := eqn Tryz.f155
theorem parse_parser_cond.eq (G : bJ) : Eqn (Q [aX.spec, parse_parser_assign.spec G, parse_parser_either.spec G, aR.spec, aI.spec]) (parse_parser_cond.g.sp 246 fun x => R.parse_parser_cond G x) .none := eqn Tryz.f246
theorem fA.eq : Eqn (Q []) fA.spec (.r (.r (.l (.r (.l (.loop ⟨[(5, (false, (.own .s))), (15, vi)], [7] ++ rg 16 13, [], []⟩ [(.ext 0, ⟨[(5, (false, (.own .s)))], [7] ++ rg 15 14, [], []⟩)] .none)))))) := eqn Tryz.f131
theorem parse_parser_simple.eq (G : bJ) : Eqn (Q [aX.spec, parse_parser_assign.spec G, bg.spec]) (parse_parser_simple.g.sp 223 fun x => R.parse_parser_simple G x) .none := eqn Tryz.f223
theorem bR.eq : Eqn (Q [bx.spec, eB.spec]) bR.spec (.r (.r (.l (.r (.l (.r (.r (.l (.piece [(.nrm, ⟨[(13, vb)], [14, 15], [], []⟩)] .none))))))))) := eqn Tryz.f19
theorem cX.eq : Eqn (Q [aw.spec, gJ.spec]) cX.spec (.r (.l (.l (.piece [(.nrm, ⟨[(21, vb)], rg 5 16, [], []⟩)] .none)))) := eqn Tryz.f22
theorem cQ.eq : Eqn (Q [fc.spec, cZ.spec, aw.spec, dY.spec, da.spec]) cQ.spec .none := eqn Tryz.f417
theorem bo.eq : Eqn (Q [bI.spec, dN.spec, jE.spec]) bo.spec .none := eqn Tryz.f43
theorem cM.eq : Eqn (Q [gg 80 (.int .u16), bY.spec]) cM.spec .none := eqn Tryz.f378
theorem eE.eq : Eqn (Q [eG.spec, eL.spec]) eE.spec .none := eqn Tryz.f297
theorem dY.eq : Eqn (Q [eY.spec, aw.spec]) dY.spec .none := eqn Tryz.f17
theorem iL.eq : Eqn (Q [iw.spec, iF.spec]) iL.spec .none := eqn Tryz.f99
theorem eh.eq : Eqn (Q [dQ.spec]) eh.spec .none := eqn Tryz.f129
theorem dv.eq : Eqn (Q []) dv.spec .none := eqn Tryz.f132
theorem eo.eq : Eqn (Q []) eo.spec .none := eqn Tryz.f143
theorem fZ.eq : Eqn (Q []) fZ.spec .none := eqn Tryz.f144
theorem bn.eq : Eqn (Q []) bn.spec .none := eqn Tryz.f335
end Go.Mach
set_option linter.unusedVariables false
set_option maxRecDepth 100000
namespace Go.Mach
open Go.Proofs
theorem eC.eq : Eqn (Q [eO.spec, fA.spec, dv.spec]) eC.spec (.r (.r (.r (.l (.l (.two (.piece [(.nrm, ⟨[(17, vb)], rg 18 8, [], []⟩)] .none) (.two (.r (.l (.loop ⟨[(6, (false, (.own .s))), (29, vi)], [8, 9] ++ rg 30 27, [], []⟩ [(.ext 1, ⟨[(6, (false, (.own .s)))], [8, 9] ++ rg 29 28, [], []⟩)] .none))) (.two (.piece [(.nrm, ⟨[(57, vb)], rg 58 15, [], []⟩)] .none) (.r (.two (.piece [(.nrm, ⟨[(79, vb)], rg 80 8, [], []⟩)] .none) (.r (.r (.l (.r (.l (.loop ⟨[(6, (false, (.own .s))), (98, vi)], [11] ++ rg 99 20, [], []⟩ [(.ext 4, ⟨[(6, (false, (.own .s)))], [11] ++ rg 98 21, [], []⟩)] .none)))))))))))))))) := eqn Tryz.f91
theorem parse_parser_list.eq (G : bJ) : Eqn (Q [parse_parser_assign.spec G, bN.spec, aR.spec, aI.spec]) (parse_parser_list.g.sp 429 fun x => R.parse_parser_list G x.1 x.2) (.r (.r (.r (.l (.loop ⟨[(5, (false, (.own (.frz (.rose aB)))))], [4] ++ rg 10 16, [(0, aF)], []⟩ [(.ret, ⟨[(4, (false, (.own (.frz (.rose aB)))))], [5] ++ rg 10 16, [(0, aF)], []⟩)] (.l (.r (.l (.l (.piece [(.nrm, ⟨[(22, vb)], rg 15 7, [(0, aF)], []⟩)] .none)))))))))) := eqn Tryz.f429
theorem eval_run_value.eq (G : bU) : Eqn (Q [fc.spec, cZ.spec, cg.spec, cS.spec, aQ.spec, cH.spec, eval_run_operation.spec G, ed.spec]) (eval_run_value.g.sp 229 fun x => R.eval_run_value G x.1 x.2.1 x.2.2) (.r (.r (.l (.r (.l (.r (.r (.r (.r (.r (.r (.r (.r (.two (.piece [(.nrm, ⟨[(43, vb)], [44, 45], [], []⟩)] .none) (.r (.r (.r (.r (.r (.r (.r (.r (.r (.l (.piece [(.nrm, ⟨[(82, vb)], [83, 84], [], []⟩)] .none))))))))))))))))))))))))) := eqn Tryz.f229
theorem ga.eq : Eqn (Q [dk.spec]) ga.spec (.r (.r (.r (.l (.r (.l (.loop ⟨[(5, (false, (.own .h))), (6, vi)], [2, 3, 4, 7, 8] ++ rg 12 43, [], []⟩ [(.ext 0, ⟨[(5, (false, (.own .h)))], [2, 3, 4, 6, 7, 8] ++ rg 12 43, [], []⟩), (.ret, ⟨[(2, (false, (.own .h))), (3, vi), (4, vi)], rg 5 4 ++ rg 12 43, [], []⟩)] (.r (.l (.r (.l (.l (.l (.piece [(.nrm, ⟨[(36, vb)], rg 37 6, [], []⟩)] .none)))))))))))))) := eqn Tryz.f97
theorem parse_parser_item.eq (G : bJ) : Eqn (Q [eA.spec, parse_parser_declares.spec G, bg.spec, ax.spec, aJ.spec, parse_parser_statement.spec G, aI.spec]) (parse_parser_item.g.sp 161 fun x => R.parse_parser_item G x) (.r (.l (.r (.l (.l (.piece [(.nrm, ⟨[(8, vb)], rg 9 6, [], []⟩)] .none)))))) := eqn Tryz.f161
theorem eval_run_fresh.eq (G : bU) : Eqn (Q [fQ.spec, eval_run_builds.spec G, aC.spec, ak.spec, ah.spec]) (eval_run_fresh.g.sp 280 fun x => R.eval_run_fresh G x.1 x.2.1 x.2.2) (.r (.r (.r (.r (.l (.l (.piece [(.nrm, ⟨[(50, vb)], rg 43 7, [], []⟩)] .none))))))) := eqn Tryz.f280
theorem dx.eq : Eqn (Q []) dx.spec (.r (.r (.l (.r (.l (.loop ⟨[(4, (false, (.own .y))), (9, vi)], [2, 3, 6] ++ rg 10 11, [], []⟩ [(.ext 0, ⟨[(4, (false, (.own .y)))], [2, 3, 6] ++ rg 9 12, [], []⟩), (.ret, ⟨[(2, vs), (3, vb)], [4, 6] ++ rg 9 12, [], []⟩)] .none)))))) := eqn Tryz.f73
theorem cL.eq : Eqn (Q [gC.spec, gI.spec, eX.spec]) cL.spec (.r (.two (.l (.piece [(.nrm, ⟨[(50, vb)], rg 3 47, [], []⟩)] .none)) (.l (.r (.l (.l (.piece [(.nrm, ⟨[(53, vb)], [54, 55], [], []⟩)] .none))))))) := eqn Tryz.f39
theorem eK.eq : Eqn (Q [cj.spec, aC.spec]) eK.spec (.r (.r (.l (.piece [(.nrm, ⟨[(10, vi)], rg 18 8, [], []⟩)] (.l (.piece [(.nrm, ⟨[(25, vb)], rg 18 7, [], []⟩)] .none)))))) := eqn Tryz.f419
theorem eval_run_binary.eq (G : bU) : Eqn (Q [eval_run_expression.spec G, cp.spec, eg.spec]) (eval_run_binary.g.sp 275 fun x => R.eval_run_binary G x.1 x.2.1 x.2.2) .none := eqn Tryz.f275
theorem dM.eq : Eqn (Q [cj.spec, bn.spec, cM.spec, aq.spec, aQ.spec, aC.spec]) dM.spec .none := eqn Tryz.f336
theorem bf.eq : Eqn (Q [aw.spec, bG.spec, aC.spec, eN.spec, cG.spec]) bf.spec .none := eqn Tryz.f352
theorem bz.eq : Eqn (Q [aw.spec, bG.spec, dJ.spec, cQ.spec]) bz.spec .none := eqn Tryz.f388
theorem cr.eq : Eqn (Q [bu.spec, eH.spec, dn.spec]) cr.spec .none := eqn Tryz.f16
theorem cB.eq : Eqn (Q [cN.spec]) cB.spec .none := eqn Tryz.f427
theorem cY.eq : Eqn (Q [cg.spec, aq.spec]) cY.spec .none := eqn Tryz.f312
theorem gK.eq : Eqn (Q [gC.spec, gg 70 (.int .u32)]) gK.spec .none := eqn Tryz.f116
theorem cN.eq : Eqn (Q []) cN.spec .none := eqn Tryz.f440
theorem bN.eq : Eqn (Q []) bN.spec .none := eqn Tryz.f216
theorem bY.eq : Eqn (Q []) bY.spec .none := eqn Tryz.f164
theorem aX.eq : Eqn (Q []) aX.spec .none := eqn Tryz.f159
theorem dQ.eq : Eqn (Q []) dQ.spec .none := eqn Tryz.f128
theorem jU.eq : Eqn (Q []) jU.spec .none := eqn Tryz.f27
end Go.Mach
