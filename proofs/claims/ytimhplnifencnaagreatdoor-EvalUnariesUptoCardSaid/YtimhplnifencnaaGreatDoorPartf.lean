/-
  Proved here: the law renlaw12.EvalUnaries returns true for every input of the stated bulk and leaves its arguments as they were; no further condition.
  By an AI agent; no person has read it.
-/
import Derived.Test.YtimhplnifencnaaGreatDoorParte
import Derived.KernelRfl
import Derived.Test.YtimhplnifencnaaGreatDoorProg
set_option linter.all false
set_option linter.deprecated false
set_option linter.unusedVariables false
set_option maxRecDepth 100000
namespace Go.Mach
open Go.Proofs
theorem eN.eq : Eqn (Q [iG.spec, aR.spec, aq.spec, ga.spec, gH.spec, fL.spec, gJ.spec]) eN.spec (.r (.two (.l (.loop ⟨[(0, (false, (.bor (.own .h))))], rg 11 11, [], []⟩ [(.ext 0, ⟨[(0, (false, (.bor (.own .h))))], rg 11 11, [], []⟩)] (.l (.l (.piece [(.nrm, ⟨[(19, vb)], rg 11 8, [], []⟩)] .none))))) (.two (.l (.loop ⟨[(0, (false, (.bor (.own .h))))], rg 22 17, [], []⟩ [(.ext 2, ⟨[(0, (false, (.bor (.own .h))))], rg 22 17, [], []⟩)] (.l (.l (.piece [(.nrm, ⟨[(33, vb)], rg 22 11, [], []⟩)] .none))))) (.r (.r (.r (.two (.piece [(.nrm, ⟨[(5, (false, (.bor (.own .h))))], rg 49 9, [], []⟩)] (.l (.piece [(.nrm, ⟨[(55, vb)], rg 49 6, [], []⟩)] .none))) (.r (.l (.piece [(.nrm, ⟨[(8, vb)], [9, 10] ++ rg 62 21 ++ [84, 85], [(7, (.box (.frz aG)))], []⟩), (.ret, ⟨[(3, vb)], [9, 10] ++ rg 62 4 ++ rg 67 17, [(1, (.box (.frz aG)))], []⟩)] (.l (.r (.r (.l (.piece [(.nrm, ⟨[(67, vb)], rg 68 8, [], []⟩)] .none))))))))))))))) := eqn Tryz.f65
theorem eO.eq : Eqn (Q [eb.spec, fV.spec, eH.spec]) eO.spec (.r (.r (.r (.l (.l (.two (.piece [(.nrm, ⟨[(17, vb)], rg 18 8, [], []⟩)] .none) (.two (.r (.l (.loop ⟨[(6, (false, (.own .s))), (29, vi)], [8, 9] ++ rg 30 27, [], []⟩ [(.ext 1, ⟨[(6, (false, (.own .s)))], [8, 9] ++ rg 29 28, [], []⟩)] .none))) (.two (.piece [(.nrm, ⟨[(57, vb)], rg 58 15, [], []⟩)] .none) (.r (.two (.piece [(.nrm, ⟨[(79, vb)], rg 80 8, [], []⟩)] .none) (.r (.r (.l (.r (.l (.loop ⟨[(6, (false, (.own .s))), (98, vi)], [11] ++ rg 99 20, [], []⟩ [(.ext 4, ⟨[(6, (false, (.own .s)))], [11] ++ rg 98 21, [], []⟩)] .none)))))))))))))))) := eqn Tryz.f138
theorem eval_run_unary.eq (G : bI) : Eqn (Q [bh.spec, eval_run_expression.spec G, dN.spec, cI.spec, ba.spec]) (eval_run_unary.g.sp 322 fun x => R.eval_run_unary G x.1 x.2.1 x.2.2.1 x.2.2.2) (.r (.r (.r (.r (.l (.piece [(.nrm, ⟨[(13, vi)], [14] ++ rg 37 14 ++ rg 52 22, [(2, aM), (5, (.box (.frz aA)))], [0, 1]⟩), (.ret, ⟨[(9, vi)], [14] ++ rg 37 15, [(2, aM), (4, (.box (.seq .i (.seq (.frz aG) (.seq (.seq .b (.own .w)) (.seq (.own .h) .i))))))], [0, 1]⟩)] .none)))))) := eqn Tryz.f322
theorem kM.eq : Eqn (Q [gr.spec, dA.spec, gX.spec, iE.spec, dE.spec, dC.spec, cB.spec, dc.spec, dP.spec, et.spec, eF.spec]) kM.spec (.r (.r (.r (.two (.l (.two (.piece [(.nrm, ⟨[(18, vb)], rg 19 22, [], []⟩)] .none) (.r (.two (.piece [(.nrm, ⟨[(42, vb)], rg 43 6, [], []⟩)] .none) (.r (.l (.piece [(.nrm, ⟨[(51, vb)], rg 52 6, [], []⟩)] .none))))))) (.r (.l (.l (.piece [(.nrm, ⟨[(75, vb)], rg 70 5, [], []⟩)] .none)))))))) := eqn Tryz.f88
theorem eval_run_operation.eq (G : bI) : Eqn (Q [gG.spec, eval_run_arguments.spec G, eval_run_assign.spec G, eval_run_binary.spec G, eval_run_callee.spec G, eval_run_expression.spec G, eval_run_fresh.spec G, eval_run_property.spec G, eval_run_unary.spec G]) (eval_run_operation.g.sp 313 fun x => R.eval_run_operation G x.1 x.2.1 x.2.2.1 x.2.2.2) (.r (.r (.l (.r (.l (.r (.r (.l (.piece [(.nrm, ⟨[(33, vb)], [34, 35], [], []⟩)] .none))))))))) := eqn Tryz.f313
theorem eval_run_list.eq (G : bI) : Eqn (Q [eval_run_statement.spec G]) (eval_run_list.g.sp 146 fun x => R.eval_run_list G x.1 x.2.1 x.2.2) (.r (.l (.r (.l (.loop ⟨[(12, vi)], [8, 9] ++ rg 13 12, [(2, aM)], [0, 1]⟩ [(.ext 0, ⟨[], [8, 9] ++ rg 12 13, [(2, aM)], [0, 1]⟩), (.ret, ⟨[], [8, 9] ++ rg 12 13, [(2, aM), (4, (.box (.frz b9)))], [0, 1]⟩)] .none))))) := eqn Tryz.f146
theorem jF.eq : Eqn (Q [gF.spec, fJ.spec]) jF.spec (.r (.l (.r (.l (.loop ⟨[(7, vi)], [2, 3, 4] ++ rg 8 19, [], []⟩ [(.ext 0, ⟨[], [2, 3, 4] ++ rg 7 20, [], []⟩), (.ret, ⟨[(2, vb)], [3, 4] ++ rg 7 20, [], []⟩)] (.r (.r (.l (.l (.r (.r (.l (.piece [(.nrm, ⟨[(25, vb)], rg 14 11, [], []⟩)] .none))))))))))))) := eqn Tryz.f129
theorem di.eq : Eqn (Q [eJ.spec, gB.spec, fQ.spec]) di.spec (.r (.r (.r (.l (.r (.l (.loop ⟨[(14, vi)], [2, 3, 5] ++ rg 15 8, [], []⟩ [(.ext 0, ⟨[], [2, 3, 5] ++ rg 14 9, [], []⟩), (.ret, ⟨[(2, vi), (3, vi)], [5] ++ rg 14 9, [], []⟩)] .none))))))) := eqn Tryz.f43
theorem gJ.eq : Eqn (Q []) gJ.spec (.r (.r (.l (.r (.l (.loop ⟨[(4, vi), (9, vi)], [2, 3, 6] ++ rg 10 12, [], []⟩ [(.ext 0, ⟨[(4, vi)], [2, 3, 6] ++ rg 9 13, [], []⟩), (.ret, ⟨[(2, vi), (3, vb)], [4, 6] ++ rg 9 13, [], []⟩)] .none)))))) := eqn Tryz.f122
theorem iY.eq : Eqn (Q [iH.spec, cC.spec, eP.spec]) iY.spec (.r (.r (.l (.l (.two (.piece [(.nrm, ⟨[(11, vb)], rg 12 5, [], []⟩)] .none) (.r (.l (.piece [(.nrm, ⟨[(17, vb)], rg 18 5, [], []⟩)] .none)))))))) := eqn Tryz.f162
theorem eR.eq : Eqn (Q []) eR.spec (.r (.r (.l (.r (.l (.loop ⟨[(3, (false, (.own .h))), (4, vi)], rg 5 13, [], []⟩ [(.ext 0, ⟨[(3, (false, (.own .h)))], rg 4 14, [], []⟩)] .none)))))) := eqn Tryz.f31
theorem bM.eq : Eqn (Q [bL.spec, cX.spec, dH.spec]) bM.spec (.r (.l (.l (.piece [(.nrm, ⟨[(24, vb)], rg 14 10, [], []⟩)] .none)))) := eqn Tryz.f194
theorem aX.eq : Eqn (Q [aZ.spec]) aX.spec .none := eqn Tryz.f188
theorem cJ.eq : Eqn (Q [eY.spec, bF.spec, cK.spec, b8.spec, iv.spec]) cJ.spec .none := eqn Tryz.f54
theorem bZ.eq : Eqn (Q [bU.spec, eB.spec, jP.spec]) bZ.spec .none := eqn Tryz.f45
theorem cu.eq : Eqn (Q [bF.spec, b8.spec, ib.spec]) cu.spec .none := eqn Tryz.f366
theorem ae.eq : Eqn (Q [bT.spec, eX.spec]) ae.spec .none := eqn Tryz.f193
theorem cm.eq : Eqn (Q [ff.spec, fl.spec]) cm.spec .none := eqn Tryz.f33
theorem bh.eq : Eqn (Q [bT.spec]) bh.spec .none := eqn Tryz.f220
theorem aO.eq : Eqn (Q [bT.spec]) aO.spec .none := eqn Tryz.f310
theorem kH.eq : Eqn (Q [jM.spec, iz.spec]) kH.spec .none := eqn Tryz.f150
theorem et.eq : Eqn (Q [bQ.spec]) et.spec .none := eqn Tryz.f160
theorem eb.eq : Eqn (Q []) eb.spec .none := eqn Tryz.f185
theorem fY.eq : Eqn (Q []) fY.spec .none := eqn Tryz.f255
theorem gF.eq : Eqn (Q []) gF.spec .none := eqn Tryz.f183
theorem eF.eq : Eqn (Q []) eF.spec .none := eqn Tryz.f159
end Go.Mach
set_option linter.unusedVariables false
set_option maxRecDepth 100000
namespace Go.Mach
open Go.Proofs
theorem cL.eq : Eqn (Q [ae.spec, cU.spec, bM.spec, cW.spec, dt.spec, aq.spec]) cL.spec (.r (.r (.r (.two (.piece [(.nrm, ⟨[(10, vb)], rg 29 8, [], []⟩)] .none) (.two (.piece [(.nrm, ⟨[], [11, 12] ++ rg 37 10 ++ rg 49 11, [(2, aM), (7, (.box (.seq .i (.seq .i (.seq (.own (.frz bR)) (.seq (.own (.frz bG)) (.seq .s (.seq .i (.seq .i (.seq (.seq .i (.seq (.frz aG) (.seq (.seq .b (.own .w)) (.seq (.own .h) .i)))) (.seq .i (.seq .i (.seq .i (.seq .i (.own .y)))))))))))))))], [0, 1]⟩), (.ret, ⟨[(7, vi)], [11, 12] ++ rg 37 12, [(2, aM), (4, (.box (.seq .i (.seq (.frz aG) (.seq (.seq .b (.own .w)) (.seq (.own .h) .i))))))], [0, 1]⟩)] .none) (.r (.two (.piece [(.nrm, ⟨[], rg 63 13, [(7, (.box j7))], [11, 12, 13, 14, 15]⟩)] (.l (.l (.piece [(.nrm, ⟨[(63, vb)], rg 64 5, [], []⟩)] .none)))) (.r (.l (.l (.piece [(.nrm, ⟨[(86, vb)], rg 82 4, [], []⟩)] .none))))))))))) := eqn Tryz.f195
theorem eval_run_apply.eq (G : bI) : Eqn (Q [bk.spec, cd.spec, eval_run_expression.spec G, eval_run_list.spec G, cU.spec, bM.spec, az.spec]) (eval_run_apply.g.sp 351 fun x => R.eval_run_apply G x.1 x.2.1 x.2.2.1 x.2.2.2) (.r (.r (.r (.r (.r (.two (.piece [(.nrm, ⟨[], rg 46 12, [(9, (.box (.frz af)))], []⟩)] .none) (.r (.r (.two (.r (.l (.loop ⟨[(76, vi)], [17, 18] ++ rg 77 23, [(7, gI)], [6]⟩ [(.ext 1, ⟨[], [17, 18] ++ rg 76 24, [(7, gI)], [6]⟩)] .none))) (.r (.r (.r (.r (.l (.r (.l (.r (.r (.l (.piece [(.nrm, ⟨[(150, vb)], [151, 152], [], []⟩)] .none)))))))))))))))))))) := eqn Tryz.f351
theorem fF.eq : Eqn (Q [bF.spec, gu.spec, fG.spec, ay.spec, ij.spec, il.spec, fj.spec, iC.spec]) fF.spec (.r (.r (.l (.r (.l (.r (.two (.l (.l (.piece [(.nrm, ⟨[(24, vb)], rg 17 7, [], []⟩)] .none))) (.two (.piece [(.nrm, ⟨[(36, vb)], rg 37 4, [], []⟩)] .none) (.r (.two (.piece [(.nrm, ⟨[(47, vb)], rg 48 6, [], []⟩)] .none) (.r (.r (.r (.r (.r (.r (.r (.r (.r (.r (.r (.r (.r (.l (.piece [(.nrm, ⟨[(101, vb)], [102, 103], [], []⟩)] .none))))))))))))))))))))))))) := eqn Tryz.f17
theorem parse_parser_head.eq (G : bJ) : Eqn (Q [aY.spec, parse_parser_arguments.spec G, parse_parser_head.spec G, parse_parser_member.spec G, bA.spec, parse_parser_primary.spec G, aH.spec]) (parse_parser_head.g.sp 403 fun x => R.parse_parser_head G x) (.r (.r (.r (.l (.l (.loop ⟨[(4, vb)], rg 13 7, [(0, aF), (4, (.box (.frz (.rose aB))))], []⟩ [(.ext 0, ⟨[], [4] ++ rg 13 7, [(0, aF), (4, (.box (.frz (.rose aB))))], []⟩)] .none)))))) := eqn Tryz.f403
def eU.ann : Ann := (.r (.l (.r (.l (.two (.piece [(.nrm, ⟨[(6, vb)], rg 7 5, [], []⟩)] .none) (.r (.l (.piece [(.nrm, ⟨[(15, vb)], rg 16 4, [], []⟩)] .none))))))))
theorem eU.eq_ (g_lex_Name : type_of% R.iT) (g_lex_Run : type_of% R.jF) (g_slices_Contains_string : type_of% R.aN) : Eqn ({ P := Tryz.prog, specs := [(iT.g.sp 128 fun x => g_lex_Name x), (jF.g.sp 129 fun x => g_lex_Run x), (aN.g.sp 131 fun x => g_slices_Contains_string x.1 x.2)], ety := nV Tryz.prog owned, inls := [xA 130 (mW.env Tryz.prog) Tryz.f130 .none] } : Env) (eU.g.sp 72 fun x => Res.given (eU.g.i x) (Res.bind (α := Bool) (Res.br (x.1 == 7) (Res.ok ((x.1 == 7))) (Res.br (x.1 == 18) (Res.ok ((x.1 == 18))) (Res.br (x.1 == 19) (Res.ok ((x.1 == 19))) (Res.br (x.1 == 20) (Res.ok ((x.1 == 20))) (Res.ok ((x.1 == 33))))))) fun x1 => Res.br x1 (Res.bind (g_lex_Name x.2.1) fun r2 => Res.ok (r2)) (Res.bind (α := Bool) (Res.br (x.1 == 12) (Res.ok ((x.1 == 12))) (Res.br (x.1 == 13) (Res.ok ((x.1 == 13))) (Res.br (x.1 == 17) (Res.ok ((x.1 == 17))) (Res.ok ((x.1 == 41)))))) fun x3 => Res.br x3 (Res.br (x.2.1 == ([] : List UInt8)) (Res.ok (true)) (Res.bind (g_lex_Name x.2.1) fun r4 => Res.ok (r4))) (Res.br (x.1 == 52) (Res.bind (g_lex_Run x.2.1) fun r5 => Res.ok (r5)) (Res.br (x.1 == 43) (Res.bind (g_slices_Contains_string [[45], [43], [33], [126], [116, 121, 112, 101, 111, 102], [118, 111, 105, 100]] x.2.1) fun r6 => Res.ok (r6)) (Res.br (x.1 == 44) (Res.br (x.1 == 44) (Res.bind (g_slices_Contains_string [[43, 43], [45, 45]] x.2.1) fun r7 => Res.ok (r7)) (Res.br (x.1 == 46) (Res.bind (g_slices_Contains_string [[43], [45], [42], [47], [37], [38], [124], [94], [60, 60], [62, 62], [62, 62, 62], [60], [62], [60, 61], [62, 61], [61, 61], [33, 61], [61, 61, 61], [33, 61, 61], [105, 110]] x.2.1) fun r8 => Res.ok (r8)) (Res.br (x.1 == 47) (Res.bind (g_slices_Contains_string [[38, 38], [124, 124], [63, 63]] x.2.1) fun r9 => Res.ok (r9)) (Res.br (x.1 == 49) (Res.bind (g_slices_Contains_string [[61], [43, 61], [45, 61], [42, 61], [47, 61], [37, 61], [38, 61], [124, 61], [94, 61], [60, 60, 61], [62, 62, 61], [62, 62, 62, 61]] x.2.1) fun r10 => Res.ok (r10)) (Res.ok ((x.2.1 == ([] : List UInt8)))))))) (Res.br (x.1 == 45) (Res.bind (g_slices_Contains_string [[43, 43], [45, 45]] x.2.1) fun r11 => Res.ok (r11)) (Res.br (x.1 == 46) (Res.bind (g_slices_Contains_string [[43], [45], [42], [47], [37], [38], [124], [94], [60, 60], [62, 62], [62, 62, 62], [60], [62], [60, 61], [62, 61], [61, 61], [33, 61], [61, 61, 61], [33, 61, 61], [105, 110]] x.2.1) fun r12 => Res.ok (r12)) (Res.br (x.1 == 47) (Res.bind (g_slices_Contains_string [[38, 38], [124, 124], [63, 63]] x.2.1) fun r13 => Res.ok (r13)) (Res.br (x.1 == 49) (Res.bind (g_slices_Contains_string [[61], [43, 61], [45, 61], [42, 61], [47, 61], [37, 61], [38, 61], [124, 61], [94, 61], [60, 60, 61], [62, 62, 61], [62, 62, 62, 61]] x.2.1) fun r14 => Res.ok (r14)) (Res.ok ((x.2.1 == ([] : List UInt8)))))))))))))) eU.ann := eqn Tryz.f72
theorem eU.eq : Eqn ({ P := Tryz.prog, specs := [iT.spec, jF.spec, aN.spec], ety := nV Tryz.prog owned, inls := [xA 130 (mW.env Tryz.prog) Tryz.f130 .none] } : Env) eU.spec eU.ann := eU.eq_ R.iT R.jF R.aN
theorem ep.eq : Eqn (Q []) ep.spec (.r (.l (.r (.l (.two (.piece [(.nrm, ⟨[(4, vb)], [5, 6], [], []⟩)] .none) (.r (.two (.piece [(.nrm, ⟨[(7, vb)], [8, 9], [], []⟩)] .none) (.r (.two (.piece [(.nrm, ⟨[(10, vb)], [11, 12], [], []⟩)] .none) (.r (.l (.piece [(.nrm, ⟨[(13, vb)], [14, 15], [], []⟩)] .none)))))))))))) := eqn Tryz.f21
theorem aS.eq : Eqn (Q [ef.spec]) aS.spec (.r (.l (.r (.l (.loop ⟨[(8, vi)], [4, 5] ++ rg 9 10, [], []⟩ [(.ext 0, ⟨[], [4, 5] ++ rg 8 11, [], []⟩), (.ret, ⟨[(4, vi)], [5] ++ rg 8 11, [], []⟩)] .none))))) := eqn Tryz.f175
theorem ij.eq : Eqn (Q [cK.spec, i6.spec, dq.spec]) ij.spec (.r (.r (.two (.l (.r (.r (.l (.piece [(.nrm, ⟨[(24, vb)], rg 25 7, [], []⟩)] .none))))) (.r (.l (.piece [(.nrm, ⟨[(11, vi)], rg 38 13, [], []⟩)] .none)))))) := eqn Tryz.f49
theorem cA.eq : Eqn (Q []) cA.spec (.r (.l (.r (.l (.loop ⟨[(8, vi)], [4, 5] ++ rg 9 10, [], []⟩ [(.ext 0, ⟨[], [4, 5] ++ rg 8 11, [], []⟩), (.ret, ⟨[(4, vi)], [5] ++ rg 8 11, [], []⟩)] .none))))) := eqn Tryz.f204
theorem bX.eq : Eqn (Q []) bX.spec (.r (.l (.loop ⟨[(2, vi), (3, vi)], rg 7 21, [(0, (.own .y))], []⟩ [(.ext 0, ⟨[], [2, 3] ++ rg 7 21, [(0, (.own .y))], []⟩)] .none))) := eqn Tryz.f125
theorem parse_parser_arguments.eq (G : bJ) : Eqn (Q [parse_parser_list.spec G, aP.spec]) (parse_parser_arguments.g.sp 404 fun x => R.parse_parser_arguments G x) .none := eqn Tryz.f404
theorem gQ.eq : Eqn (Q [iD.spec, gy.spec, cO.spec, cp.spec, gD.spec]) gQ.spec .none := eqn Tryz.f127
theorem fy.eq : Eqn (Q [cK.spec, cY.spec, fH.spec, aN.spec]) fy.spec .none := eqn Tryz.f336
theorem eG.eq : Eqn (Q [bt.spec, eR.spec, eI.spec]) eG.spec .none := eqn Tryz.f18
theorem bg.eq : Eqn (Q [cA.spec]) bg.spec .none := eqn Tryz.f174
theorem cN.eq : Eqn (Q [cm.spec, dn.spec]) cN.spec .none := eqn Tryz.f10
theorem ct.eq : Eqn (Q [dS.spec]) ct.spec .none := eqn Tryz.f202
theorem gG.eq : Eqn (Q [bF.spec, fO.spec]) gG.spec .none := eqn Tryz.f20
theorem iT.eq : Eqn (Q [jF.spec, iU.spec]) iT.spec .none := eqn Tryz.f128
theorem cR.eq : Eqn (Q [gY 70 (.int .u16)]) cR.spec .none := eqn Tryz.f82
theorem gK.eq : Eqn (Q [ea.spec]) gK.spec .none := eqn Tryz.f104
theorem eH.eq : Eqn (Q []) eH.spec .none := eqn Tryz.f187
theorem gh.eq : Eqn (Q []) gh.spec .none := eqn Tryz.f358
theorem bQ.eq : Eqn (Q []) bQ.spec .none := eqn Tryz.f102
theorem bk.eq : Eqn (Q []) bk.spec .none := eqn Tryz.f367
end Go.Mach
set_option linter.unusedVariables false
set_option maxRecDepth 100000
namespace Go.Mach
open Go.Proofs
theorem eval_run_decls.eq (G : bI) : Eqn (Q [eval_run_expression.spec G, cW.spec]) (eval_run_decls.g.sp 251 fun x => R.eval_run_decls G x.1 x.2.1 x.2.2) (.r (.l (.r (.l (.loop ⟨[(15, vi)], rg 8 5 ++ rg 16 42, [(2, aM)], [0, 1]⟩ [(.ext 0, ⟨[], rg 8 5 ++ rg 15 43, [(2, aM)], [0, 1]⟩), (.ret, ⟨[], rg 8 5 ++ rg 15 43, [(2, aM), (4, (.box (.frz b9)))], [0, 1]⟩)] (.r (.r (.l (.l (.r (.r (.r (.l (.piece [(.nrm, ⟨[], [11, 12] ++ rg 27 16 ++ [46], [(2, aM), (11, (.box (.frz aA)))], [5, 6]⟩), (.ret, ⟨[], [11, 12] ++ rg 27 19, [(2, aM), (4, (.box (.frz b9)))], [5, 6]⟩)] .none)))))))))))))) := eqn Tryz.f251
theorem gu.eq : Eqn (Q [iR.spec, bF.spec, b8.spec, fG.spec, er.spec, iA.spec, fO.spec]) gu.spec (.r (.r (.two (.l (.r (.r (.l (.piece [(.nrm, ⟨[(21, vb)], rg 22 6, [], []⟩)] .none))))) (.r (.two (.piece [(.nrm, ⟨[], rg 38 7, [(0, (.box (.frz aA))), (1, (.box (.frz aA)))], []⟩)] .none) (.l (.l (.r (.r (.two (.piece [(.nrm, ⟨[(54, vb)], rg 55 8, [], []⟩)] .none) (.r (.l (.piece [(.nrm, ⟨[(68, vb)], rg 69 8, [], []⟩)] .none))))))))))))) := eqn Tryz.f53
theorem dx.eq : Eqn (Q [b8.spec, ay.spec, ep.spec, bk.spec, fE.spec, ec.spec, aD.spec, az.spec, gZ.spec]) dx.spec (.r (.r (.r (.r (.r (.two (.piece [(.nrm, ⟨[(15, vb)], rg 92 6, [], []⟩)] .none) (.l (.l (.l (.piece [(.nrm, ⟨[(98, vb)], rg 99 26, [], []⟩)] (.two (.piece [(.nrm, ⟨[(98, vb)], rg 99 8, [], []⟩)] .none) (.r (.l (.piece [(.nrm, ⟨[(98, vb)], rg 107 11, [], []⟩)] .none)))))))))))))) := eqn Tryz.f388
theorem eval_run_builds.eq (G : bI) : Eqn (Q [cu.spec, bk.spec, ae.spec, eval_run_does.spec G, aO.spec, dV.spec, aD.spec, dw.spec, gp.spec]) (eval_run_builds.g.sp 347 fun x => R.eval_run_builds G x.1 x.2.1 x.2.2) (.r (.l (.r (.l (.two (.piece [(.nrm, ⟨[(12, vb)], rg 13 5, [], []⟩)] .none) (.r (.l (.piece [(.nrm, ⟨[(22, vb)], rg 23 5, [], []⟩)] .none)))))))) := eqn Tryz.f347
theorem parse_parser_both.eq (G : bJ) : Eqn (Q [ai.spec, parse_parser_level.spec G, aH.spec]) (parse_parser_both.g.sp 333 fun x => R.parse_parser_both G x.1 x.2) (.r (.l (.l (.loop ⟨[], rg 5 7, [(0, aF), (1, (.box (.frz (.rose aB))))], []⟩ [(.ext 0, ⟨[], rg 5 7, [(0, aF), (1, (.box (.frz (.rose aB))))], []⟩)] .none)))) := eqn Tryz.f333
theorem fh.eq (fu : Nat) : Eqn (Q [(fh.spec fu)]) (fh.g.sp 212 fun x => R.fh (fu + 1) x.1 x.2) (.r (.r (.r (.r (.l (.r (.l (.loop ⟨[(6, (false, (.own .i))), (28, vi)], [8] ++ rg 29 10, [(1, pA)], [4]⟩ [(.ext 0, ⟨[(6, (false, (.own .i)))], [8] ++ rg 28 11, [(1, pA)], [4]⟩)] .none)))))))) := eqn Tryz.f212
theorem aZ.eq : Eqn (Q [fc.spec]) aZ.spec (.r (.l (.r (.l (.loop ⟨[(8, vi)], [4, 5] ++ rg 9 10, [], []⟩ [(.ext 0, ⟨[], [4, 5] ++ rg 8 11, [], []⟩), (.ret, ⟨[(4, vi)], [5] ++ rg 8 11, [], []⟩)] .none))))) := eqn Tryz.f213
theorem gg.eq : Eqn (Q [aN.spec]) gg.spec (.r (.l (.r (.l (.loop ⟨[(7, vi)], [2, 3, 4] ++ rg 8 10, [], []⟩ [(.ext 0, ⟨[], [2, 3, 4] ++ rg 7 11, [], []⟩), (.ret, ⟨[(2, vb)], [3, 4] ++ rg 7 11, [], []⟩)] .none))))) := eqn Tryz.f137
theorem bH.eq : Eqn (Q []) bH.spec (.r (.l (.r (.l (.loop ⟨[(8, vi)], [4, 5] ++ rg 9 10, [], []⟩ [(.ext 0, ⟨[], [4, 5] ++ rg 8 11, [], []⟩), (.ret, ⟨[(4, vi)], [5] ++ rg 8 11, [], []⟩)] .none))))) := eqn Tryz.f184
theorem eval_run_callee.eq (G : bI) : Eqn (Q [eval_run_arguments.spec G, eval_run_call.spec G, eval_run_called.spec G]) (eval_run_callee.g.sp 327 fun x => R.eval_run_callee G x.1 x.2.1 x.2.2) .none := eqn Tryz.f327
theorem eval_run_expression.eq (G : bI) : Eqn (Q [bh.spec, eval_run_value.spec G]) (eval_run_expression.g.sp 249 fun x => R.eval_run_expression G x.1 x.2.1 x.2.2) .none := eqn Tryz.f249
theorem eQ.eq : Eqn (Q [bt.spec, jD.spec, aO.spec, dy.spec, aD.spec]) eQ.spec .none := eqn Tryz.f352
theorem ib.eq : Eqn (Q [gZ.spec]) ib.spec (.r (.l (.r (.l (.piece [(.nrm, ⟨[(13, vb)], rg 6 7, [], []⟩)] .none))))) := eqn Tryz.f390
theorem dK.eq : Eqn (Q [aw.spec]) dK.spec .none := eqn Tryz.f268
theorem aN.eq : Eqn (Q [bH.spec]) aN.spec .none := eqn Tryz.f131
theorem fE.eq : Eqn (Q [dO.spec, az.spec]) fE.spec .none := eqn Tryz.f413
theorem aP.eq : Eqn (Q [aH.spec]) aP.spec .none := eqn Tryz.f271
theorem eC.eq : Eqn (Q [bL.spec]) eC.spec .none := eqn Tryz.f364
theorem jC.eq : Eqn (Q [cD.spec]) jC.spec .none := eqn Tryz.f91
theorem kQ.eq : Eqn (Q [jN.spec, iG.spec]) kQ.spec .none := eqn Tryz.f87
theorem aI.eq : Eqn (Q []) aI.spec .none := eqn Tryz.f210
theorem jW.eq : Eqn (Q [iY.spec]) jW.spec .none := eqn Tryz.f167
theorem fJ.eq : Eqn (Q []) fJ.spec .none := eqn Tryz.f182
theorem dC.eq : Eqn (Q []) dC.spec .none := eqn Tryz.f107
theorem jk.eq : Eqn (Q []) jk.spec .none := eqn Tryz.f44
end Go.Mach
set_option linter.unusedVariables false
set_option maxRecDepth 100000
namespace Go.Mach
open Go.Proofs
theorem gT.eq : Eqn (Q []) gT.spec (.r (.r (.l (.r (.l (.loop ⟨[(3, (false, (.own .i))), (10, vi)], [2, 4, 5, 6] ++ rg 11 59, [], []⟩ [(.ext 0, ⟨[(3, (false, (.own .i)))], [2, 4, 5, 6] ++ rg 10 60, [], []⟩), (.ret, ⟨[(2, vb)], rg 3 4 ++ rg 10 60, [], []⟩)] (.r (.r (.l (.l (.r (.two (.piece [(.nrm, ⟨[(3, (false, (.own .i)))], rg 15 20, [], [2]⟩), (.ret, ⟨[(2, vb)], rg 15 15, [], []⟩)] (.r (.l (.l (.l (.piece [(.nrm, ⟨[(29, vb)], rg 17 12, [], []⟩)] .none)))))) (.r (.l (.loop ⟨[(3, (false, (.own .i))), (6, vi)], [2] ++ rg 39 30, [], [5]⟩ [(.ext 2, ⟨[(3, (false, (.own .i)))], [2, 6] ++ rg 39 30, [], [5]⟩), (.ret, ⟨[(2, vb)], [3, 6] ++ rg 39 30, [], [5]⟩)] (.r (.l (.l (.l (.l (.piece [(.nrm, ⟨[(60, vb)], rg 43 17, [], []⟩)] .none))))))))))))))))))))) := eqn Tryz.f38
theorem cd.eq : Eqn (Q [cL.spec, bM.spec]) cd.spec (.r (.l (.r (.l (.loop ⟨[(25, vi)], [7, 9, 10, 12, 13, 14] ++ rg 26 68, [(2, aM)], [0, 1]⟩ [(.ext 0, ⟨[], [7, 9, 10, 12, 13, 14] ++ rg 25 69, [(2, aM)], [0, 1]⟩), (.ret, ⟨[(7, vi)], [9, 10, 12, 13, 14] ++ rg 25 69, [(2, aM), (4, (.box (.frz aA)))], [0, 1]⟩)] (.r (.r (.l (.l (.r (.r (.r (.l (.two (.piece [(.nrm, ⟨[(39, vb)], [40, 41], [], []⟩)] .none) (.l (.r (.l (.loop ⟨[(45, vi)], [12] ++ rg 46 24, [(7, gI)], [6]⟩ [(.ext 3, ⟨[], [12] ++ rg 45 25, [(7, gI)], [6]⟩)] .none)))))))))))))))))) := eqn Tryz.f145
theorem eval_run_value.eq (G : bI) : Eqn (Q [eY.spec, cK.spec, cR.spec, ay.spec, eval_run_array.spec G, aO.spec, cL.spec, eval_run_operation.spec G, fA.spec]) (eval_run_value.g.sp 287 fun x => R.eval_run_value G x.1 x.2.1 x.2.2) (.r (.r (.l (.r (.l (.r (.r (.r (.r (.r (.r (.r (.r (.two (.piece [(.nrm, ⟨[(43, vb)], [44, 45], [], []⟩)] .none) (.r (.r (.r (.r (.r (.r (.r (.r (.r (.l (.piece [(.nrm, ⟨[(82, vb)], [83, 84], [], []⟩)] .none))))))))))))))))))))))))) := eqn Tryz.f287
theorem gA.eq : Eqn (Q [iH.spec, gx.spec, gm.spec, fR.spec]) gA.spec (.r (.r (.r (.l (.r (.l (.loop ⟨[(7, (false, (.own .w))), (8, vi)], [9] ++ rg 16 33, [(2, (.own .w))], []⟩ [(.ext 0, ⟨[(7, (false, (.own .w)))], [8, 9] ++ rg 16 33, [(2, (.own .w))], []⟩)] (.r (.l (.l (.r (.l (.loop ⟨[(7, (false, (.own .w))), (9, vi)], rg 20 29, [(2, (.own .w))], [3]⟩ [(.ext 2, ⟨[(7, (false, (.own .w)))], [9] ++ rg 20 29, [(2, (.own .w))], [3]⟩)] .none))))))))))))) := eqn Tryz.f201
theorem fQ.eq : Eqn (Q [cp.spec, gD.spec, cf.spec, gf.spec, gT.spec]) fQ.spec (.r (.two (.l (.piece [(.nrm, ⟨[(26, vb)], rg 4 22, [], []⟩)] .none)) (.l (.r (.l (.loop ⟨[(30, vi)], [2, 3] ++ rg 31 29, [], []⟩ [(.ext 0, ⟨[], [2, 3] ++ rg 30 30, [], []⟩), (.ret, ⟨[(2, vb)], [3] ++ rg 30 30, [], []⟩)] (.r (.r (.l (.l (.r (.l (.piece [(.nrm, ⟨[(58, vb)], rg 33 25, [], []⟩)] .none))))))))))))) := eqn Tryz.f14
theorem eJ.eq : Eqn (Q []) eJ.spec (.r (.r (.r (.l (.r (.l (.loop ⟨[(17, vi)], [4, 5, 7] ++ rg 18 17, [(2, (.own .i))], []⟩ [(.ext 0, ⟨[], [4, 5, 7] ++ rg 17 18, [(2, (.own .i))], []⟩)] (.r (.r (.l (.l (.r (.r (.l (.loop ⟨[(25, vi)], [7] ++ rg 26 8, [(2, (.own .i))], []⟩ [(.ext 2, ⟨[], [7] ++ rg 25 9, [(2, (.own .i))], []⟩)] .none))))))))))))))) := eqn Tryz.f77
theorem cM.eq : Eqn (Q [fl.spec, fa.spec, ba.spec, eG.spec, cN.spec, fo.spec, bz.spec, dY.spec, fQ.spec]) cM.spec (.r (.r (.r (.l (.l (.piece [(.nrm, ⟨[(34, vb)], rg 19 15, [], []⟩)] .none)))))) := eqn Tryz.f4
theorem fx.eq : Eqn (Q []) fx.spec (.r (.r (.l (.r (.l (.loop ⟨[(4, (false, (.own .y))), (9, vi)], [2, 3, 6] ++ rg 10 11, [], []⟩ [(.ext 0, ⟨[(4, (false, (.own .y)))], [2, 3, 6] ++ rg 9 12, [], []⟩), (.ret, ⟨[(2, vs), (3, vb)], [4, 6] ++ rg 9 12, [], []⟩)] .none)))))) := eqn Tryz.f112
theorem ig.eq : Eqn (Q [jM.spec, kK.spec, kJ.spec, kL.spec, kH.spec, eY.spec, ei.spec]) ig.spec (.r (.r (.r (.l (.piece [(.nrm, ⟨[(9, vi)], rg 47 8, [(5, (.box (.frz bC)))], []⟩)] .none))))) := eqn Tryz.f84
theorem iH.eq : Eqn (Q [iq.spec]) iH.spec (.r (.r (.l (.r (.l (.loop ⟨[(5, vi)], [4] ++ rg 20 25, [], []⟩ [(.ext 0, ⟨[], [4, 5] ++ rg 20 25, [], []⟩), (.ret, ⟨[(4, vi)], [5] ++ rg 20 25, [], []⟩)] .none)))))) := eqn Tryz.f200
theorem fT.eq : Eqn (Q []) fT.spec (.r (.r (.l (.r (.l (.loop ⟨[(5, (false, (.own .i))), (8, vi)], rg 9 5, [], []⟩ [(.ext 0, ⟨[(5, (false, (.own .i)))], rg 8 6, [], []⟩)] .none)))))) := eqn Tryz.f132
theorem eval_run_parts.eq (G : bI) : Eqn (Q [cR.spec, eval_run_expression.spec G, aq.spec]) (eval_run_parts.g.sp 340 fun x => R.eval_run_parts G x.1 x.2.1 x.2.2) .none := eqn Tryz.f340
theorem gZ.eq : Eqn (Q [dA.spec, bQ.spec]) gZ.spec (.r (.l (.r (.l (.piece [(.nrm, ⟨[(12, vb)], rg 5 7, [], []⟩)] .none))))) := eqn Tryz.f410
theorem jM.eq : Eqn (Q [iH.spec, gN.spec, gm.spec, cC.spec, eP.spec, jR.spec]) jM.spec .none := eqn Tryz.f149
theorem jB.eq : Eqn (Q [dL.spec, ew.spec, eo.spec]) jB.spec .none := eqn Tryz.f75
theorem fG.eq : Eqn (Q [bF.spec, jE.spec, fO.spec]) fG.spec .none := eqn Tryz.f52
theorem bn.eq : Eqn (Q [bx.spec]) bn.spec .none := eqn Tryz.f387
theorem a8.eq : Eqn (Q [aI.spec]) a8.spec .none := eqn Tryz.f242
theorem fS.eq : Eqn (Q [iY.spec, jq.spec]) fS.spec .none := eqn Tryz.f163
theorem fi.eq : Eqn (Q [eW.spec]) fi.spec .none := eqn Tryz.f343
theorem dA.eq : Eqn (Q [gV.spec, dc.spec]) dA.spec .none := eqn Tryz.f100
theorem eA.eq : Eqn (Q []) eA.spec .none := eqn Tryz.f247
theorem bT.eq : Eqn (Q []) bT.spec .none := eqn Tryz.f215
theorem gH.eq : Eqn (Q []) gH.spec .none := eqn Tryz.f116
theorem dE.eq : Eqn (Q []) dE.spec .none := eqn Tryz.f154
theorem jP.eq : Eqn (Q []) jP.spec .none := eqn Tryz.f79
end Go.Mach
