/-
  Proved here: the law renlaw12.EvalArrays returns true for every input of the stated bulk and leaves its arguments as they were; no further condition.
  By an AI agent; no person has read it.
-/
import Derived.Test.YtimhplnifencnaaGreatDoorParte
import Derived.KernelRfl
import Derived.Test.YtimhplnifencnaaGreatDoorProg
set_option linter.all false
set_option linter.deprecated false
set_option linter.unusedVariables false
set_option maxRecDepth 100000
namespace Go.Mach
open Go.Proofs
theorem eh.eq : Eqn (Q [iI.spec, aT.spec, ah.spec, gu.spec, gQ.spec, fj.spec, gh.spec]) eh.spec (.r (.two (.l (.loop ⟨[(0, (false, (.bor (.own .h))))], rg 11 11, [], []⟩ [(.ext 0, ⟨[(0, (false, (.bor (.own .h))))], rg 11 11, [], []⟩)] (.l (.l (.piece [(.nrm, ⟨[(19, vb)], rg 11 8, [], []⟩)] .none))))) (.two (.l (.loop ⟨[(0, (false, (.bor (.own .h))))], rg 22 17, [], []⟩ [(.ext 2, ⟨[(0, (false, (.bor (.own .h))))], rg 22 17, [], []⟩)] (.l (.l (.piece [(.nrm, ⟨[(33, vb)], rg 22 11, [], []⟩)] .none))))) (.r (.r (.r (.two (.piece [(.nrm, ⟨[(5, (false, (.bor (.own .h))))], rg 49 9, [], []⟩)] (.l (.piece [(.nrm, ⟨[(55, vb)], rg 49 6, [], []⟩)] .none))) (.r (.l (.piece [(.nrm, ⟨[(8, vb)], [9, 10] ++ rg 62 21 ++ [84, 85], [(7, (.box (.frz aF)))], []⟩), (.ret, ⟨[(3, vb)], [9, 10] ++ rg 62 4 ++ rg 67 17, [(1, (.box (.frz aF)))], []⟩)] (.l (.r (.r (.l (.piece [(.nrm, ⟨[(67, vb)], rg 68 8, [], []⟩)] .none))))))))))))))) := eqn Tryz.f65
theorem eA.eq : Eqn (Q [eG.spec, ey.spec, dw.spec]) eA.spec (.r (.r (.r (.l (.l (.two (.piece [(.nrm, ⟨[(17, vb)], rg 18 8, [], []⟩)] .none) (.two (.r (.l (.loop ⟨[(6, (false, (.own .s))), (29, vi)], [8, 9] ++ rg 30 27, [], []⟩ [(.ext 1, ⟨[(6, (false, (.own .s)))], [8, 9] ++ rg 29 28, [], []⟩)] .none))) (.two (.piece [(.nrm, ⟨[(57, vb)], rg 58 15, [], []⟩)] .none) (.r (.two (.piece [(.nrm, ⟨[(79, vb)], rg 80 8, [], []⟩)] .none) (.r (.r (.l (.r (.l (.loop ⟨[(6, (false, (.own .s))), (98, vi)], [11] ++ rg 99 20, [], []⟩ [(.ext 4, ⟨[(6, (false, (.own .s)))], [11] ++ rg 98 21, [], []⟩)] .none)))))))))))))))) := eqn Tryz.f138
theorem eval_run_unary.eq (G : bD) : Eqn (Q [bH.spec, eval_run_expression.spec G, dE.spec, b8.spec, gg.spec]) (eval_run_unary.g.sp 322 fun x => R.eval_run_unary G x.1 x.2.1 x.2.2.1 x.2.2.2) (.r (.r (.r (.r (.l (.piece [(.nrm, ⟨[(13, vi)], [14] ++ rg 37 14 ++ rg 52 22, [(2, aK), (5, (.box (.frz aA)))], [0, 1]⟩), (.ret, ⟨[(9, vi)], [14] ++ rg 37 15, [(2, aK), (4, (.box (.seq .i (.seq (.frz aF) (.seq (.seq .b (.own .w)) (.seq (.own .h) .i))))))], [0, 1]⟩)] .none)))))) := eqn Tryz.f322
theorem j7.eq : Eqn (Q [gR.spec, cn.spec, gH.spec, iH.spec, cu.spec, dF.spec, bt.spec, dY.spec, da.spec, eS.spec, dv.spec]) j7.spec (.r (.r (.r (.two (.l (.two (.piece [(.nrm, ⟨[(18, vb)], rg 19 22, [], []⟩)] .none) (.r (.two (.piece [(.nrm, ⟨[(42, vb)], rg 43 6, [], []⟩)] .none) (.r (.l (.piece [(.nrm, ⟨[(51, vb)], rg 52 6, [], []⟩)] .none))))))) (.r (.l (.l (.piece [(.nrm, ⟨[(75, vb)], rg 70 5, [], []⟩)] .none)))))))) := eqn Tryz.f88
theorem eval_run_operation.eq (G : bD) : Eqn (Q [gI.spec, eval_run_arguments.spec G, eval_run_assign.spec G, eval_run_binary.spec G, eval_run_callee.spec G, eval_run_expression.spec G, eval_run_fresh.spec G, eval_run_property.spec G, eval_run_unary.spec G]) (eval_run_operation.g.sp 313 fun x => R.eval_run_operation G x.1 x.2.1 x.2.2.1 x.2.2.2) (.r (.r (.l (.r (.l (.r (.r (.l (.piece [(.nrm, ⟨[(33, vb)], [34, 35], [], []⟩)] .none))))))))) := eqn Tryz.f313
theorem eval_run_list.eq (G : bD) : Eqn (Q [eval_run_statement.spec G]) (eval_run_list.g.sp 146 fun x => R.eval_run_list G x.1 x.2.1 x.2.2) (.r (.l (.r (.l (.loop ⟨[(12, vi)], [8, 9] ++ rg 13 12, [(2, aK)], [0, 1]⟩ [(.ext 0, ⟨[], [8, 9] ++ rg 12 13, [(2, aK)], [0, 1]⟩), (.ret, ⟨[], [8, 9] ++ rg 12 13, [(2, aK), (4, (.box (.frz bo)))], [0, 1]⟩)] .none))))) := eqn Tryz.f146
theorem ir.eq : Eqn (Q [fg.spec, er.spec]) ir.spec (.r (.l (.r (.l (.loop ⟨[(7, vi)], [2, 3, 4] ++ rg 8 19, [], []⟩ [(.ext 0, ⟨[], [2, 3, 4] ++ rg 7 20, [], []⟩), (.ret, ⟨[(2, vb)], [3, 4] ++ rg 7 20, [], []⟩)] (.r (.r (.l (.l (.r (.r (.l (.piece [(.nrm, ⟨[(25, vb)], rg 14 11, [], []⟩)] .none))))))))))))) := eqn Tryz.f129
theorem dQ.eq : Eqn (Q [dx.spec, fb.spec, fU.spec]) dQ.spec (.r (.r (.r (.l (.r (.l (.loop ⟨[(14, vi)], [2, 3, 5] ++ rg 15 8, [], []⟩ [(.ext 0, ⟨[], [2, 3, 5] ++ rg 14 9, [], []⟩), (.ret, ⟨[(2, vi), (3, vi)], [5] ++ rg 14 9, [], []⟩)] .none))))))) := eqn Tryz.f43
theorem gh.eq : Eqn (Q []) gh.spec (.r (.r (.l (.r (.l (.loop ⟨[(4, vi), (9, vi)], [2, 3, 6] ++ rg 10 12, [], []⟩ [(.ext 0, ⟨[(4, vi)], [2, 3, 6] ++ rg 9 13, [], []⟩), (.ret, ⟨[(2, vi), (3, vb)], [4, 6] ++ rg 9 13, [], []⟩)] .none)))))) := eqn Tryz.f122
theorem iJ.eq : Eqn (Q [gm.spec, cA.spec, eD.spec]) iJ.spec (.r (.r (.l (.l (.two (.piece [(.nrm, ⟨[(11, vb)], rg 12 5, [], []⟩)] .none) (.r (.l (.piece [(.nrm, ⟨[(17, vb)], rg 18 5, [], []⟩)] .none)))))))) := eqn Tryz.f162
theorem eC.eq : Eqn (Q []) eC.spec (.r (.r (.l (.r (.l (.loop ⟨[(3, (false, (.own .h))), (4, vi)], rg 5 13, [], []⟩ [(.ext 0, ⟨[(3, (false, (.own .h)))], rg 4 14, [], []⟩)] .none)))))) := eqn Tryz.f31
theorem bJ.eq : Eqn (Q [bK.spec, cL.spec, cr.spec]) bJ.spec (.r (.l (.l (.piece [(.nrm, ⟨[(24, vb)], rg 14 10, [], []⟩)] .none)))) := eqn Tryz.f194
theorem aU.eq : Eqn (Q [aV.spec]) aU.spec .none := eqn Tryz.f188
theorem cQ.eq : Eqn (Q [eZ.spec, bF.spec, bx.spec, bz.spec, jH.spec]) cQ.spec .none := eqn Tryz.f54
theorem cb.eq : Eqn (Q [cD.spec, dk.spec, jF.spec]) cb.spec .none := eqn Tryz.f45
theorem cd.eq : Eqn (Q [bF.spec, bz.spec, iQ.spec]) cd.spec .none := eqn Tryz.f366
theorem aY.eq : Eqn (Q [bS.spec, eJ.spec]) aY.spec .none := eqn Tryz.f193
theorem cY.eq : Eqn (Q [fQ.spec, ew.spec]) cY.spec .none := eqn Tryz.f33
theorem bH.eq : Eqn (Q [bS.spec]) bH.spec .none := eqn Tryz.f220
theorem aO.eq : Eqn (Q [bS.spec]) aO.spec .none := eqn Tryz.f310
theorem kD.eq : Eqn (Q [i6.spec, jA.spec]) kD.spec .none := eqn Tryz.f150
theorem eS.eq : Eqn (Q [bX.spec]) eS.spec .none := eqn Tryz.f160
theorem eG.eq : Eqn (Q []) eG.spec .none := eqn Tryz.f185
theorem ez.eq : Eqn (Q []) ez.spec .none := eqn Tryz.f255
theorem fg.eq : Eqn (Q []) fg.spec .none := eqn Tryz.f183
theorem dv.eq : Eqn (Q []) dv.spec .none := eqn Tryz.f159
end Go.Mach
set_option linter.unusedVariables false
set_option maxRecDepth 100000
namespace Go.Mach
open Go.Proofs
theorem cC.eq : Eqn (Q [aY.spec, cN.spec, bJ.spec, cK.spec, cz.spec, ah.spec]) cC.spec (.r (.r (.r (.two (.piece [(.nrm, ⟨[(10, vb)], rg 29 8, [], []⟩)] .none) (.two (.piece [(.nrm, ⟨[], [11, 12] ++ rg 37 10 ++ rg 49 11, [(2, aK), (7, (.box (.seq .i (.seq .i (.seq (.own (.frz bN)) (.seq (.own (.frz bB)) (.seq .s (.seq .i (.seq .i (.seq (.seq .i (.seq (.frz aF) (.seq (.seq .b (.own .w)) (.seq (.own .h) .i)))) (.seq .i (.seq .i (.seq .i (.seq .i (.own .y)))))))))))))))], [0, 1]⟩), (.ret, ⟨[(7, vi)], [11, 12] ++ rg 37 12, [(2, aK), (4, (.box (.seq .i (.seq (.frz aF) (.seq (.seq .b (.own .w)) (.seq (.own .h) .i))))))], [0, 1]⟩)] .none) (.r (.two (.piece [(.nrm, ⟨[], rg 63 13, [(7, (.box ju))], [11, 12, 13, 14, 15]⟩)] (.l (.l (.piece [(.nrm, ⟨[(63, vb)], rg 64 5, [], []⟩)] .none)))) (.r (.l (.l (.piece [(.nrm, ⟨[(86, vb)], rg 82 4, [], []⟩)] .none))))))))))) := eqn Tryz.f195
theorem eval_run_apply.eq (G : bD) : Eqn (Q [bf.spec, cU.spec, eval_run_expression.spec G, eval_run_list.spec G, cN.spec, bJ.spec, au.spec]) (eval_run_apply.g.sp 351 fun x => R.eval_run_apply G x.1 x.2.1 x.2.2.1 x.2.2.2) (.r (.r (.r (.r (.r (.two (.piece [(.nrm, ⟨[], rg 46 12, [(9, (.box (.frz aZ)))], []⟩)] .none) (.r (.r (.two (.r (.l (.loop ⟨[(76, vi)], [17, 18] ++ rg 77 23, [(7, fm)], [6]⟩ [(.ext 1, ⟨[], [17, 18] ++ rg 76 24, [(7, fm)], [6]⟩)] .none))) (.r (.r (.r (.r (.l (.r (.l (.r (.r (.l (.piece [(.nrm, ⟨[(150, vb)], [151, 152], [], []⟩)] .none)))))))))))))))))))) := eqn Tryz.f351
theorem eg.eq : Eqn (Q [bF.spec, gP.spec, ei.spec, ax.spec, iL.spec, iP.spec, fK.spec, gV.spec]) eg.spec (.r (.r (.l (.r (.l (.r (.two (.l (.l (.piece [(.nrm, ⟨[(24, vb)], rg 17 7, [], []⟩)] .none))) (.two (.piece [(.nrm, ⟨[(36, vb)], rg 37 4, [], []⟩)] .none) (.r (.two (.piece [(.nrm, ⟨[(47, vb)], rg 48 6, [], []⟩)] .none) (.r (.r (.r (.r (.r (.r (.r (.r (.r (.r (.r (.r (.r (.l (.piece [(.nrm, ⟨[(101, vb)], [102, 103], [], []⟩)] .none))))))))))))))))))))))))) := eqn Tryz.f17
theorem parse_parser_head.eq (G : bE) : Eqn (Q [aX.spec, parse_parser_arguments.spec G, parse_parser_head.spec G, parse_parser_member.spec G, aw.spec, parse_parser_primary.spec G, aG.spec]) (parse_parser_head.g.sp 403 fun x => R.parse_parser_head G x) (.r (.r (.r (.l (.l (.loop ⟨[(4, vb)], rg 13 7, [(0, aD), (4, (.box (.frz (.rose aB))))], []⟩ [(.ext 0, ⟨[], [4] ++ rg 13 7, [(0, aD), (4, (.box (.frz (.rose aB))))], []⟩)] .none)))))) := eqn Tryz.f403
def eV.ann : Ann := (.r (.l (.r (.l (.two (.piece [(.nrm, ⟨[(6, vb)], rg 7 5, [], []⟩)] .none) (.r (.l (.piece [(.nrm, ⟨[(15, vb)], rg 16 4, [], []⟩)] .none))))))))
theorem eV.eq_ (g_lex_Name : type_of% R.iF) (g_lex_Run : type_of% R.ir) (g_slices_Contains_string : type_of% R.aL) : Eqn ({ P := Tryz.prog, specs := [(iF.g.sp 128 fun x => g_lex_Name x), (ir.g.sp 129 fun x => g_lex_Run x), (aL.g.sp 131 fun x => g_slices_Contains_string x.1 x.2)], ety := nF Tryz.prog owned, inls := [wj 130 (mH.env Tryz.prog) Tryz.f130 .none] } : Env) (eV.g.sp 72 fun x => Res.given (eV.g.i x) (Res.bind (α := Bool) (Res.br (x.1 == 7) (Res.ok ((x.1 == 7))) (Res.br (x.1 == 18) (Res.ok ((x.1 == 18))) (Res.br (x.1 == 19) (Res.ok ((x.1 == 19))) (Res.br (x.1 == 20) (Res.ok ((x.1 == 20))) (Res.ok ((x.1 == 33))))))) fun x1 => Res.br x1 (Res.bind (g_lex_Name x.2.1) fun r2 => Res.ok (r2)) (Res.bind (α := Bool) (Res.br (x.1 == 12) (Res.ok ((x.1 == 12))) (Res.br (x.1 == 13) (Res.ok ((x.1 == 13))) (Res.br (x.1 == 17) (Res.ok ((x.1 == 17))) (Res.ok ((x.1 == 41)))))) fun x3 => Res.br x3 (Res.br (x.2.1 == ([] : List UInt8)) (Res.ok (true)) (Res.bind (g_lex_Name x.2.1) fun r4 => Res.ok (r4))) (Res.br (x.1 == 52) (Res.bind (g_lex_Run x.2.1) fun r5 => Res.ok (r5)) (Res.br (x.1 == 43) (Res.bind (g_slices_Contains_string [[45], [43], [33], [126], [116, 121, 112, 101, 111, 102], [118, 111, 105, 100]] x.2.1) fun r6 => Res.ok (r6)) (Res.br (x.1 == 44) (Res.br (x.1 == 44) (Res.bind (g_slices_Contains_string [[43, 43], [45, 45]] x.2.1) fun r7 => Res.ok (r7)) (Res.br (x.1 == 46) (Res.bind (g_slices_Contains_string [[43], [45], [42], [47], [37], [38], [124], [94], [60, 60], [62, 62], [62, 62, 62], [60], [62], [60, 61], [62, 61], [61, 61], [33, 61], [61, 61, 61], [33, 61, 61], [105, 110]] x.2.1) fun r8 => Res.ok (r8)) (Res.br (x.1 == 47) (Res.bind (g_slices_Contains_string [[38, 38], [124, 124], [63, 63]] x.2.1) fun r9 => Res.ok (r9)) (Res.br (x.1 == 49) (Res.bind (g_slices_Contains_string [[61], [43, 61], [45, 61], [42, 61], [47, 61], [37, 61], [38, 61], [124, 61], [94, 61], [60, 60, 61], [62, 62, 61], [62, 62, 62, 61]] x.2.1) fun r10 => Res.ok (r10)) (Res.ok ((x.2.1 == ([] : List UInt8)))))))) (Res.br (x.1 == 45) (Res.bind (g_slices_Contains_string [[43, 43], [45, 45]] x.2.1) fun r11 => Res.ok (r11)) (Res.br (x.1 == 46) (Res.bind (g_slices_Contains_string [[43], [45], [42], [47], [37], [38], [124], [94], [60, 60], [62, 62], [62, 62, 62], [60], [62], [60, 61], [62, 61], [61, 61], [33, 61], [61, 61, 61], [33, 61, 61], [105, 110]] x.2.1) fun r12 => Res.ok (r12)) (Res.br (x.1 == 47) (Res.bind (g_slices_Contains_string [[38, 38], [124, 124], [63, 63]] x.2.1) fun r13 => Res.ok (r13)) (Res.br (x.1 == 49) (Res.bind (g_slices_Contains_string [[61], [43, 61], [45, 61], [42, 61], [47, 61], [37, 61], [38, 61], [124, 61], [94, 61], [60, 60, 61], [62, 62, 61], [62, 62, 62, 61]] x.2.1) fun r14 => Res.ok (r14)) (Res.ok ((x.2.1 == ([] : List UInt8)))))))))))))) eV.ann := eqn Tryz.f72
theorem eV.eq : Eqn ({ P := Tryz.prog, specs := [iF.spec, ir.spec, aL.spec], ety := nF Tryz.prog owned, inls := [wj 130 (mH.env Tryz.prog) Tryz.f130 .none] } : Env) eV.spec eV.ann := eV.eq_ R.iF R.ir R.aL
theorem eR.eq : Eqn (Q []) eR.spec (.r (.l (.r (.l (.two (.piece [(.nrm, ⟨[(4, vb)], [5, 6], [], []⟩)] .none) (.r (.two (.piece [(.nrm, ⟨[(7, vb)], [8, 9], [], []⟩)] .none) (.r (.two (.piece [(.nrm, ⟨[(10, vb)], [11, 12], [], []⟩)] .none) (.r (.l (.piece [(.nrm, ⟨[(13, vb)], [14, 15], [], []⟩)] .none)))))))))))) := eqn Tryz.f21
theorem aW.eq : Eqn (Q [fH.spec]) aW.spec (.r (.l (.r (.l (.loop ⟨[(8, vi)], [4, 5] ++ rg 9 10, [], []⟩ [(.ext 0, ⟨[], [4, 5] ++ rg 8 11, [], []⟩), (.ret, ⟨[(4, vi)], [5] ++ rg 8 11, [], []⟩)] .none))))) := eqn Tryz.f175
theorem iL.eq : Eqn (Q [bx.spec, jB.spec, dV.spec]) iL.spec (.r (.r (.two (.l (.r (.r (.l (.piece [(.nrm, ⟨[(24, vb)], rg 25 7, [], []⟩)] .none))))) (.r (.l (.piece [(.nrm, ⟨[(11, vi)], rg 38 13, [], []⟩)] .none)))))) := eqn Tryz.f49
theorem cT.eq : Eqn (Q []) cT.spec (.r (.l (.r (.l (.loop ⟨[(8, vi)], [4, 5] ++ rg 9 10, [], []⟩ [(.ext 0, ⟨[], [4, 5] ++ rg 8 11, [], []⟩), (.ret, ⟨[(4, vi)], [5] ++ rg 8 11, [], []⟩)] .none))))) := eqn Tryz.f204
theorem bT.eq : Eqn (Q []) bT.spec (.r (.l (.loop ⟨[(2, vi), (3, vi)], rg 7 21, [(0, (.own .y))], []⟩ [(.ext 0, ⟨[], [2, 3] ++ rg 7 21, [(0, (.own .y))], []⟩)] .none))) := eqn Tryz.f125
theorem parse_parser_arguments.eq (G : bE) : Eqn (Q [parse_parser_list.spec G, aQ.spec]) (parse_parser_arguments.g.sp 404 fun x => R.parse_parser_arguments G x) .none := eqn Tryz.f404
theorem fp.eq : Eqn (Q [gf.spec, gj.spec, cE.spec, ca.spec, fc.spec]) fp.spec .none := eqn Tryz.f127
theorem fX.eq : Eqn (Q [bx.spec, cR.spec, eo.spec, aL.spec]) fX.spec .none := eqn Tryz.f336
theorem dO.eq : Eqn (Q [bP.spec, eC.spec, dq.spec]) dO.spec .none := eqn Tryz.f18
theorem b9.eq : Eqn (Q [cT.spec]) b9.spec .none := eqn Tryz.f174
theorem cO.eq : Eqn (Q [cY.spec, dU.spec]) cO.spec .none := eqn Tryz.f10
theorem cf.eq : Eqn (Q [dK.spec]) cf.spec .none := eqn Tryz.f202
theorem gI.eq : Eqn (Q [bF.spec, ff.spec]) gI.spec .none := eqn Tryz.f20
theorem iF.eq : Eqn (Q [ir.spec, iG.spec]) iF.spec .none := eqn Tryz.f128
theorem cH.eq : Eqn (Q [gJ 70 (.int .u16)]) cH.spec .none := eqn Tryz.f82
theorem gW.eq : Eqn (Q [et.spec]) gW.spec .none := eqn Tryz.f104
theorem dw.eq : Eqn (Q []) dw.spec .none := eqn Tryz.f187
theorem gK.eq : Eqn (Q []) gK.spec .none := eqn Tryz.f358
theorem bX.eq : Eqn (Q []) bX.spec .none := eqn Tryz.f102
theorem bf.eq : Eqn (Q []) bf.spec .none := eqn Tryz.f367
end Go.Mach
set_option linter.unusedVariables false
set_option maxRecDepth 100000
namespace Go.Mach
open Go.Proofs
theorem cS.eq : Eqn (Q [bx.spec, ew.spec, fi.spec, dO.spec, cO.spec, eT.spec, bl.spec, bR.spec, fU.spec]) cS.spec (.r (.r (.r (.two (.l (.piece [(.nrm, ⟨[(49, vb)], rg 27 22, [], []⟩)] .none)) (.r (.r (.two (.r (.l (.loop ⟨[(10, (false, jC)), (11, vi)], rg 52 9, [], []⟩ [(.ext 0, ⟨[(10, (false, jC))], [11] ++ rg 52 9, [], []⟩)] .none))) (.two (.r (.l (.loop ⟨[(12, vi)], rg 61 12, [(2, (.box (.seq .i (.seq .s (.seq (.own .h) (.seq (.frz aF) (.seq (.seq .b (.own .w)) (.own .i))))))))], []⟩ [(.ext 2, ⟨[], [12] ++ rg 61 12, [(2, (.box (.seq .i (.seq .s (.seq (.own .h) (.seq (.frz aF) (.seq (.seq .b (.own .w)) (.own .i))))))))], []⟩)] .none))) (.r (.r (.r (.two (.l (.piece [(.nrm, ⟨[(102, vb)], rg 93 9, [], []⟩)] .none)) (.r (.r (.r (.l (.piece [(.nrm, ⟨[], rg 118 4, [(20, (.box (.frz aA)))], []⟩)] .none))))))))))))))))) := eqn Tryz.f9
theorem eval_run_decls.eq (G : bD) : Eqn (Q [eval_run_expression.spec G, cK.spec]) (eval_run_decls.g.sp 251 fun x => R.eval_run_decls G x.1 x.2.1 x.2.2) (.r (.l (.r (.l (.loop ⟨[(15, vi)], rg 8 5 ++ rg 16 42, [(2, aK)], [0, 1]⟩ [(.ext 0, ⟨[], rg 8 5 ++ rg 15 43, [(2, aK)], [0, 1]⟩), (.ret, ⟨[], rg 8 5 ++ rg 15 43, [(2, aK), (4, (.box (.frz bo)))], [0, 1]⟩)] (.r (.r (.l (.l (.r (.r (.r (.l (.piece [(.nrm, ⟨[], [11, 12] ++ rg 27 16 ++ [46], [(2, aK), (11, (.box (.frz aA)))], [5, 6]⟩), (.ret, ⟨[], [11, 12] ++ rg 27 19, [(2, aK), (4, (.box (.frz bo)))], [5, 6]⟩)] .none)))))))))))))) := eqn Tryz.f251
theorem gP.eq : Eqn (Q [iB.spec, bF.spec, bz.spec, ei.spec, eU.spec, gl.spec, ff.spec]) gP.spec (.r (.r (.two (.l (.r (.r (.l (.piece [(.nrm, ⟨[(21, vb)], rg 22 6, [], []⟩)] .none))))) (.r (.two (.piece [(.nrm, ⟨[], rg 38 7, [(0, (.box (.frz aA))), (1, (.box (.frz aA)))], []⟩)] .none) (.l (.l (.r (.r (.two (.piece [(.nrm, ⟨[(54, vb)], rg 55 8, [], []⟩)] .none) (.r (.l (.piece [(.nrm, ⟨[(68, vb)], rg 69 8, [], []⟩)] .none))))))))))))) := eqn Tryz.f53
theorem dm.eq : Eqn (Q [bz.spec, ax.spec, eR.spec, bf.spec, ef.spec, eI.spec, aC.spec, au.spec, gF.spec]) dm.spec (.r (.r (.r (.r (.r (.two (.piece [(.nrm, ⟨[(15, vb)], rg 92 6, [], []⟩)] .none) (.l (.l (.l (.piece [(.nrm, ⟨[(98, vb)], rg 99 26, [], []⟩)] (.two (.piece [(.nrm, ⟨[(98, vb)], rg 99 8, [], []⟩)] .none) (.r (.l (.piece [(.nrm, ⟨[(98, vb)], rg 107 11, [], []⟩)] .none)))))))))))))) := eqn Tryz.f388
theorem eval_run_builds.eq (G : bD) : Eqn (Q [cd.spec, bf.spec, aY.spec, eval_run_does.spec G, aO.spec, dH.spec, aC.spec, dd.spec, gZ.spec]) (eval_run_builds.g.sp 347 fun x => R.eval_run_builds G x.1 x.2.1 x.2.2) (.r (.l (.r (.l (.two (.piece [(.nrm, ⟨[(12, vb)], rg 13 5, [], []⟩)] .none) (.r (.l (.piece [(.nrm, ⟨[(22, vb)], rg 23 5, [], []⟩)] .none)))))))) := eqn Tryz.f347
theorem parse_parser_both.eq (G : bE) : Eqn (Q [ae.spec, parse_parser_level.spec G, aG.spec]) (parse_parser_both.g.sp 333 fun x => R.parse_parser_both G x.1 x.2) (.r (.l (.l (.loop ⟨[], rg 5 7, [(0, aD), (1, (.box (.frz (.rose aB))))], []⟩ [(.ext 0, ⟨[], rg 5 7, [(0, aD), (1, (.box (.frz (.rose aB))))], []⟩)] .none)))) := eqn Tryz.f333
theorem fP.eq (fu : Nat) : Eqn (Q [(fP.spec fu)]) (fP.g.sp 212 fun x => R.fP (fu + 1) x.1 x.2) (.r (.r (.r (.r (.l (.r (.l (.loop ⟨[(6, (false, (.own .i))), (28, vi)], [8] ++ rg 29 10, [(1, oo)], [4]⟩ [(.ext 0, ⟨[(6, (false, (.own .i)))], [8] ++ rg 28 11, [(1, oo)], [4]⟩)] .none)))))))) := eqn Tryz.f212
theorem aV.eq : Eqn (Q [fI.spec]) aV.spec (.r (.l (.r (.l (.loop ⟨[(8, vi)], [4, 5] ++ rg 9 10, [], []⟩ [(.ext 0, ⟨[], [4, 5] ++ rg 8 11, [], []⟩), (.ret, ⟨[(4, vi)], [5] ++ rg 8 11, [], []⟩)] .none))))) := eqn Tryz.f213
theorem gL.eq : Eqn (Q [aL.spec]) gL.spec (.r (.l (.r (.l (.loop ⟨[(7, vi)], [2, 3, 4] ++ rg 8 10, [], []⟩ [(.ext 0, ⟨[], [2, 3, 4] ++ rg 7 11, [], []⟩), (.ret, ⟨[(2, vb)], [3, 4] ++ rg 7 11, [], []⟩)] .none))))) := eqn Tryz.f137
theorem bG.eq : Eqn (Q []) bG.spec (.r (.l (.r (.l (.loop ⟨[(8, vi)], [4, 5] ++ rg 9 10, [], []⟩ [(.ext 0, ⟨[], [4, 5] ++ rg 8 11, [], []⟩), (.ret, ⟨[(4, vi)], [5] ++ rg 8 11, [], []⟩)] .none))))) := eqn Tryz.f184
theorem eval_run_callee.eq (G : bD) : Eqn (Q [eval_run_arguments.spec G, eval_run_call.spec G, eval_run_called.spec G]) (eval_run_callee.g.sp 327 fun x => R.eval_run_callee G x.1 x.2.1 x.2.2) .none := eqn Tryz.f327
theorem eval_run_expression.eq (G : bD) : Eqn (Q [bH.spec, eval_run_value.spec G]) (eval_run_expression.g.sp 249 fun x => R.eval_run_expression G x.1 x.2.1 x.2.2) .none := eqn Tryz.f249
theorem cp.eq : Eqn (Q [bP.spec, ib.spec, aO.spec, dc.spec, aC.spec]) cp.spec .none := eqn Tryz.f352
theorem iQ.eq : Eqn (Q [gF.spec]) iQ.spec (.r (.l (.r (.l (.piece [(.nrm, ⟨[(13, vb)], rg 6 7, [], []⟩)] .none))))) := eqn Tryz.f390
theorem dA.eq : Eqn (Q [al.spec]) dA.spec .none := eqn Tryz.f268
theorem aL.eq : Eqn (Q [bG.spec]) aL.spec .none := eqn Tryz.f131
theorem ef.eq : Eqn (Q [dG.spec, au.spec]) ef.spec .none := eqn Tryz.f413
theorem aQ.eq : Eqn (Q [aG.spec]) aQ.spec .none := eqn Tryz.f271
theorem de.eq : Eqn (Q [bK.spec]) de.spec .none := eqn Tryz.f364
theorem ic.eq : Eqn (Q [bu.spec]) ic.spec .none := eqn Tryz.f91
theorem j5.eq : Eqn (Q [iz.spec, iI.spec]) j5.spec .none := eqn Tryz.f87
theorem aH.eq : Eqn (Q []) aH.spec .none := eqn Tryz.f210
theorem jE.eq : Eqn (Q [iJ.spec]) jE.spec .none := eqn Tryz.f167
theorem er.eq : Eqn (Q []) er.spec .none := eqn Tryz.f182
theorem dF.eq : Eqn (Q []) dF.spec .none := eqn Tryz.f107
theorem ja.eq : Eqn (Q []) ja.spec .none := eqn Tryz.f44
end Go.Mach
set_option linter.unusedVariables false
set_option maxRecDepth 100000
namespace Go.Mach
open Go.Proofs
theorem gD.eq : Eqn (Q []) gD.spec (.r (.r (.l (.r (.l (.loop ⟨[(3, (false, (.own .i))), (10, vi)], [2, 4, 5, 6] ++ rg 11 59, [], []⟩ [(.ext 0, ⟨[(3, (false, (.own .i)))], [2, 4, 5, 6] ++ rg 10 60, [], []⟩), (.ret, ⟨[(2, vb)], rg 3 4 ++ rg 10 60, [], []⟩)] (.r (.r (.l (.l (.r (.two (.piece [(.nrm, ⟨[(3, (false, (.own .i)))], rg 15 20, [], [2]⟩), (.ret, ⟨[(2, vb)], rg 15 15, [], []⟩)] (.r (.l (.l (.l (.piece [(.nrm, ⟨[(29, vb)], rg 17 12, [], []⟩)] .none)))))) (.r (.l (.loop ⟨[(3, (false, (.own .i))), (6, vi)], [2] ++ rg 39 30, [], [5]⟩ [(.ext 2, ⟨[(3, (false, (.own .i)))], [2, 6] ++ rg 39 30, [], [5]⟩), (.ret, ⟨[(2, vb)], [3, 6] ++ rg 39 30, [], [5]⟩)] (.r (.l (.l (.l (.l (.piece [(.nrm, ⟨[(60, vb)], rg 43 17, [], []⟩)] .none))))))))))))))))))))) := eqn Tryz.f38
theorem cU.eq : Eqn (Q [cC.spec, bJ.spec]) cU.spec (.r (.l (.r (.l (.loop ⟨[(25, vi)], [7, 9, 10, 12, 13, 14] ++ rg 26 68, [(2, aK)], [0, 1]⟩ [(.ext 0, ⟨[], [7, 9, 10, 12, 13, 14] ++ rg 25 69, [(2, aK)], [0, 1]⟩), (.ret, ⟨[(7, vi)], [9, 10, 12, 13, 14] ++ rg 25 69, [(2, aK), (4, (.box (.frz aA)))], [0, 1]⟩)] (.r (.r (.l (.l (.r (.r (.r (.l (.two (.piece [(.nrm, ⟨[(39, vb)], [40, 41], [], []⟩)] .none) (.l (.r (.l (.loop ⟨[(45, vi)], [12] ++ rg 46 24, [(7, fm)], [6]⟩ [(.ext 3, ⟨[], [12] ++ rg 45 25, [(7, fm)], [6]⟩)] .none)))))))))))))))))) := eqn Tryz.f145
theorem eval_run_value.eq (G : bD) : Eqn (Q [eZ.spec, bx.spec, cH.spec, ax.spec, eval_run_array.spec G, aO.spec, cC.spec, eval_run_operation.spec G, ea.spec]) (eval_run_value.g.sp 287 fun x => R.eval_run_value G x.1 x.2.1 x.2.2) (.r (.r (.l (.r (.l (.r (.r (.r (.r (.r (.r (.r (.r (.two (.piece [(.nrm, ⟨[(43, vb)], [44, 45], [], []⟩)] .none) (.r (.r (.r (.r (.r (.r (.r (.r (.r (.l (.piece [(.nrm, ⟨[(82, vb)], [83, 84], [], []⟩)] .none))))))))))))))))))))))))) := eqn Tryz.f287
theorem fa.eq : Eqn (Q [gm.spec, gX.spec, gO.spec, fD.spec]) fa.spec (.r (.r (.r (.l (.r (.l (.loop ⟨[(7, (false, (.own .w))), (8, vi)], [9] ++ rg 16 33, [(2, (.own .w))], []⟩ [(.ext 0, ⟨[(7, (false, (.own .w)))], [8, 9] ++ rg 16 33, [(2, (.own .w))], []⟩)] (.r (.l (.l (.r (.l (.loop ⟨[(7, (false, (.own .w))), (9, vi)], rg 20 29, [(2, (.own .w))], [3]⟩ [(.ext 2, ⟨[(7, (false, (.own .w)))], [9] ++ rg 20 29, [(2, (.own .w))], [3]⟩)] .none))))))))))))) := eqn Tryz.f201
theorem fU.eq : Eqn (Q [ca.spec, fc.spec, du.spec, gY.spec, gD.spec]) fU.spec (.r (.two (.l (.piece [(.nrm, ⟨[(26, vb)], rg 4 22, [], []⟩)] .none)) (.l (.r (.l (.loop ⟨[(30, vi)], [2, 3] ++ rg 31 29, [], []⟩ [(.ext 0, ⟨[], [2, 3] ++ rg 30 30, [], []⟩), (.ret, ⟨[(2, vb)], [3] ++ rg 30 30, [], []⟩)] (.r (.r (.l (.l (.r (.l (.piece [(.nrm, ⟨[(58, vb)], rg 33 25, [], []⟩)] .none))))))))))))) := eqn Tryz.f14
theorem dx.eq : Eqn (Q []) dx.spec (.r (.r (.r (.l (.r (.l (.loop ⟨[(17, vi)], [4, 5, 7] ++ rg 18 17, [(2, (.own .i))], []⟩ [(.ext 0, ⟨[], [4, 5, 7] ++ rg 17 18, [(2, (.own .i))], []⟩)] (.r (.r (.l (.l (.r (.r (.l (.loop ⟨[(25, vi)], [7] ++ rg 26 8, [(2, (.own .i))], []⟩ [(.ext 2, ⟨[], [7] ++ rg 25 9, [(2, (.own .i))], []⟩)] .none))))))))))))))) := eqn Tryz.f77
theorem fW.eq : Eqn (Q []) fW.spec (.r (.r (.l (.r (.l (.loop ⟨[(4, (false, (.own .y))), (9, vi)], [2, 3, 6] ++ rg 10 11, [], []⟩ [(.ext 0, ⟨[(4, (false, (.own .y)))], [2, 3, 6] ++ rg 9 12, [], []⟩), (.ret, ⟨[(2, vs), (3, vb)], [4, 6] ++ rg 9 12, [], []⟩)] .none)))))) := eqn Tryz.f112
theorem iN.eq : Eqn (Q [i6.spec, jx.spec, j9.spec, jw.spec, kD.spec, eZ.spec, eP.spec]) iN.spec (.r (.r (.r (.l (.piece [(.nrm, ⟨[(9, vi)], rg 47 8, [(5, (.box (.frz az)))], []⟩)] .none))))) := eqn Tryz.f84
theorem gm.eq : Eqn (Q [iV.spec]) gm.spec (.r (.r (.l (.r (.l (.loop ⟨[(5, vi)], [4] ++ rg 20 25, [], []⟩ [(.ext 0, ⟨[], [4, 5] ++ rg 20 25, [], []⟩), (.ret, ⟨[(4, vi)], [5] ++ rg 20 25, [], []⟩)] .none)))))) := eqn Tryz.f200
theorem fC.eq : Eqn (Q []) fC.spec (.r (.r (.l (.r (.l (.loop ⟨[(5, (false, (.own .i))), (8, vi)], rg 9 5, [], []⟩ [(.ext 0, ⟨[(5, (false, (.own .i)))], rg 8 6, [], []⟩)] .none)))))) := eqn Tryz.f132
theorem eval_run_parts.eq (G : bD) : Eqn (Q [cH.spec, eval_run_expression.spec G, ah.spec]) (eval_run_parts.g.sp 340 fun x => R.eval_run_parts G x.1 x.2.1 x.2.2) .none := eqn Tryz.f340
theorem gF.eq : Eqn (Q [cn.spec, bX.spec]) gF.spec (.r (.l (.r (.l (.piece [(.nrm, ⟨[(12, vb)], rg 5 7, [], []⟩)] .none))))) := eqn Tryz.f410
theorem i6.eq : Eqn (Q [gm.spec, fy.spec, gO.spec, cA.spec, eD.spec, jL.spec]) i6.spec .none := eqn Tryz.f149
theorem ik.eq : Eqn (Q [dC.spec, eW.spec, eM.spec]) ik.spec .none := eqn Tryz.f75
theorem ei.eq : Eqn (Q [bF.spec, ig.spec, ff.spec]) ei.spec .none := eqn Tryz.f52
theorem bg.eq : Eqn (Q [bn.spec]) bg.spec .none := eqn Tryz.f387
theorem av.eq : Eqn (Q [aH.spec]) av.spec .none := eqn Tryz.f242
theorem fA.eq : Eqn (Q [iJ.spec, jh.spec]) fA.spec .none := eqn Tryz.f163
theorem fR.eq : Eqn (Q [eH.spec]) fR.spec .none := eqn Tryz.f343
theorem cn.eq : Eqn (Q [gp.spec, dY.spec]) cn.spec .none := eqn Tryz.f100
theorem dh.eq : Eqn (Q []) dh.spec .none := eqn Tryz.f247
theorem bS.eq : Eqn (Q []) bS.spec .none := eqn Tryz.f215
theorem gQ.eq : Eqn (Q []) gQ.spec .none := eqn Tryz.f116
theorem cu.eq : Eqn (Q []) cu.spec .none := eqn Tryz.f154
theorem jF.eq : Eqn (Q []) jF.spec .none := eqn Tryz.f79
end Go.Mach
