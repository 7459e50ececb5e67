/-
  Proved here: the law renlaw12.EvalNames returns true for every input of the stated bulk and leaves its arguments as they were; no further condition.
  By an AI agent; no person has read it.
-/
import Derived.Test.YtimhplnifencnaaGreatDoorParte
import Derived.KernelRfl
import Derived.Test.YtimhplnifencnaaGreatDoorProg
set_option linter.all false
set_option linter.deprecated false
set_option linter.unusedVariables false
set_option maxRecDepth 100000
namespace Go.Mach
open Go.Proofs
theorem parse_parser_either.eq (G : bC) : Eqn (Q [aY.spec, parse_parser_both.spec G, parse_parser_level.spec G, au.spec, aF.spec]) (parse_parser_either.g.sp 318 fun x => R.parse_parser_either G x) (.r (.r (.two (.r (.l (.two (.l (.loop ⟨[], rg 8 7, [(0, aE), (3, (.box (.frz (.rose aB))))], []⟩ [(.ext 0, ⟨[], rg 8 7, [(0, aE), (3, (.box (.frz (.rose aB))))], []⟩)] .none)) (.l (.piece [(.nrm, ⟨[], rg 15 6, [], []⟩)] (.l (.piece [(.nrm, ⟨[(20, vb)], rg 15 5, [], []⟩)] .none))))))) (.r (.l (.l (.loop ⟨[], rg 27 9, [(0, aE), (3, (.box (.frz (.rose aB))))], []⟩ [(.ext 2, ⟨[], rg 27 9, [(0, aE), (3, (.box (.frz (.rose aB))))], []⟩)] .none))))))) := eqn Tryz.f318
theorem dA.eq : Eqn (Q [gS.spec, cC.spec, a8.spec, eo.spec]) dA.spec (.r (.r (.two (.l (.loop ⟨[(4, vi)], [3, 5, 6] ++ rg 19 52, [], []⟩ [(.ext 0, ⟨[], rg 3 4 ++ rg 19 52, [], []⟩), (.ret, ⟨[(3, vi)], [4, 5, 6] ++ rg 19 52, [(0, bP), (1, (.box (.seq .i (.seq .s (.seq (.own .h) (.seq (.frz aL) (.seq (.seq .b (.own .w)) (.seq .i .b))))))))], []⟩)] (.r (.l (.l (.r (.l (.l (.piece [(.nrm, ⟨[(56, vb)], rg 42 14, [], []⟩)] .none))))))))) (.r (.l (.l (.piece [(.nrm, ⟨[(101, vb)], rg 81 20, [], []⟩)] .none))))))) := eqn Tryz.f237
theorem gR.eq : Eqn (Q [iE.spec, iQ.spec, fk.spec, bR.spec]) gR.spec (.r (.r (.r (.r (.l (.l (.loop ⟨[(3, (false, (.own .w))), (4, (false, (.own .y)))], [5, 6] ++ rg 12 34, [], [2]⟩ [(.ext 0, ⟨[(4, (false, (.own .y)))], [3, 5, 6] ++ rg 12 34, [], [2]⟩)] (.r (.l (.r (.l (.r (.l (.loop ⟨[(5, (false, (.frz (.int .u64)))), (6, vi)], rg 18 20, [(3, (.own .w))], []⟩ [(.ext 2, ⟨[(5, (false, (.frz (.int .u64))))], [6] ++ rg 18 20, [(3, (.own .w))], []⟩)] .none)))))))))))))) := eqn Tryz.f69
theorem eval_run_builds.eq (G : ax) : Eqn (Q [cN.spec, bX.spec, ak.spec, eval_run_does.spec G, aZ.spec, cn.spec, aC.spec, dD.spec, fW.spec]) (eval_run_builds.g.sp 347 fun x => R.eval_run_builds G x.1 x.2.1 x.2.2) (.r (.l (.r (.l (.two (.piece [(.nrm, ⟨[(12, vb)], rg 13 5, [], []⟩)] .none) (.r (.l (.piece [(.nrm, ⟨[(22, vb)], rg 23 5, [], []⟩)] .none)))))))) := eqn Tryz.f347
theorem eval_run_list.eq (G : ax) : Eqn (Q [eval_run_statement.spec G]) (eval_run_list.g.sp 146 fun x => R.eval_run_list G x.1 x.2.1 x.2.2) (.r (.l (.r (.l (.loop ⟨[(12, vi)], [8, 9] ++ rg 13 12, [(2, aJ)], [0, 1]⟩ [(.ext 0, ⟨[], [8, 9] ++ rg 12 13, [(2, aJ)], [0, 1]⟩), (.ret, ⟨[], [8, 9] ++ rg 12 13, [(2, aJ), (4, (.box (.frz ai)))], [0, 1]⟩)] .none))))) := eqn Tryz.f146
theorem eZ.eq : Eqn (Q []) eZ.spec (.r (.l (.r (.l (.two (.piece [(.nrm, ⟨[(4, vb)], [5, 6], [], []⟩)] .none) (.r (.two (.piece [(.nrm, ⟨[(7, vb)], [8, 9], [], []⟩)] .none) (.r (.two (.piece [(.nrm, ⟨[(10, vb)], [11, 12], [], []⟩)] .none) (.r (.l (.piece [(.nrm, ⟨[(13, vb)], [14, 15], [], []⟩)] .none)))))))))))) := eqn Tryz.f21
theorem eo.eq : Eqn (Q []) eo.spec (.r (.r (.l (.r (.l (.loop ⟨[(4, (false, (.own .y))), (9, vi)], [2, 3, 6] ++ rg 10 11, [], []⟩ [(.ext 0, ⟨[(4, (false, (.own .y)))], [2, 3, 6] ++ rg 9 12, [], []⟩), (.ret, ⟨[(2, vs), (3, vb)], [4, 6] ++ rg 9 12, [], []⟩)] .none)))))) := eqn Tryz.f112
theorem dJ.eq : Eqn (Q [fI.spec, fi.spec, dv.spec]) dJ.spec (.r (.two (.l (.piece [(.nrm, ⟨[(50, vb)], rg 3 47, [], []⟩)] .none)) (.l (.r (.l (.l (.piece [(.nrm, ⟨[(53, vb)], [54, 55], [], []⟩)] .none))))))) := eqn Tryz.f39
theorem cH.eq : Eqn (Q []) cH.spec (.r (.l (.r (.l (.two (.piece [(.nrm, ⟨[(5, vb)], rg 6 4, [], []⟩)] .none) (.r (.l (.piece [(.nrm, ⟨[(10, vb)], rg 11 6, [], []⟩)] .none)))))))) := eqn Tryz.f296
theorem gS.eq : Eqn (Q []) gS.spec (.r (.l (.r (.l (.two (.piece [(.nrm, ⟨[(4, vb)], rg 5 50, [], []⟩)] .none) (.r (.l (.piece [(.nrm, ⟨[(55, vb)], rg 56 7, [], []⟩)] .none)))))))) := eqn Tryz.f270
theorem aS.eq : Eqn (Q [aV.spec]) aS.spec .none := eqn Tryz.f119
theorem gJ.eq : Eqn (Q [fQ.spec]) gJ.spec (.r (.l (.r (.l (.piece [(.nrm, ⟨[(13, vb)], rg 6 7, [], []⟩)] .none))))) := eqn Tryz.f390
theorem cD.eq : Eqn (Q [aO.spec]) cD.spec .none := eqn Tryz.f216
theorem dp.eq : Eqn (Q [fl 109 (.int .u32), fl 70 (.int .u16)]) dp.spec .none := eqn Tryz.f217
theorem cW.eq : Eqn (Q [bh.spec]) cW.spec .none := eqn Tryz.f394
theorem fH.eq : Eqn (Q [bk.spec, gZ.spec]) fH.spec .none := eqn Tryz.f20
theorem b8.eq : Eqn (Q []) b8.spec .none := eqn Tryz.f435
theorem dI.eq : Eqn (Q []) dI.spec .none := eqn Tryz.f247
theorem dV.eq : Eqn (Q []) dV.spec .none := eqn Tryz.f397
theorem fy.eq : Eqn (Q []) fy.spec .none := eqn Tryz.f74
theorem gQ.eq : Eqn (Q []) gQ.spec .none := eqn Tryz.f108
end Go.Mach
set_option linter.unusedVariables false
set_option maxRecDepth 100000
namespace Go.Mach
open Go.Proofs
theorem fb.eq : Eqn (Q [eT.spec]) fb.spec (.r (.l (.r (.l (.two (.piece [(.nrm, ⟨[(7, vb)], [8, 9], [], []⟩)] .none) (.r (.two (.piece [(.nrm, ⟨[(10, vb)], rg 11 5, [], []⟩)] .none) (.r (.two (.piece [(.nrm, ⟨[(17, vb)], [18, 19], [], []⟩)] .none) (.r (.two (.piece [(.nrm, ⟨[(21, vb)], [22, 23], [], []⟩)] .none) (.r (.r (.r (.r (.r (.r (.r (.r (.r (.r (.r (.r (.r (.two (.piece [(.nrm, ⟨[(50, vb)], [51, 52], [], []⟩)] .none) (.r (.r (.r (.r (.r (.r (.r (.two (.piece [(.nrm, ⟨[(63, vb)], [64, 65], [], []⟩)] .none) (.r (.two (.piece [(.nrm, ⟨[(67, vb)], [68, 69, 70], [], []⟩)] .none) (.r (.r (.r (.r (.r (.l (.piece [(.nrm, ⟨[(78, vb)], [79, 80], [], []⟩)] .none)))))))))))))))))))))))))))))))))))))))))) := eqn Tryz.f73
theorem ez.eq : Eqn (Q [bn.spec, av.spec, fB.spec]) ez.spec (.r (.r (.l (.r (.l (.loop ⟨[(3, vb), (8, vi)], [2, 5] ++ rg 9 28, [], []⟩ [(.ext 0, ⟨[(3, vb)], [2, 5] ++ rg 8 29, [], []⟩), (.ret, ⟨[(2, vb)], [3, 5] ++ rg 8 29, [], []⟩)] (.r (.r (.l (.l (.r (.two (.piece [(.nrm, ⟨[(3, vb)], rg 12 5, [], []⟩)] .none) (.l (.l (.piece [(.nrm, ⟨[(17, vb)], rg 18 14, [], []⟩)] (.r (.r (.l (.piece [(.nrm, ⟨[(17, vb)], rg 20 6, [], []⟩)] .none))))))))))))))))))) := eqn Tryz.f117
theorem dd.eq : Eqn (Q [cL.spec, eu.spec, dJ.spec, fX.spec, fK.spec]) dd.spec (.r (.two (.l (.piece [(.nrm, ⟨[(26, vb)], rg 4 22, [], []⟩)] .none)) (.l (.r (.l (.loop ⟨[(30, vi)], [2, 3] ++ rg 31 29, [], []⟩ [(.ext 0, ⟨[], [2, 3] ++ rg 30 30, [], []⟩), (.ret, ⟨[(2, vb)], [3] ++ rg 30 30, [], []⟩)] (.r (.r (.l (.l (.r (.l (.piece [(.nrm, ⟨[(58, vb)], rg 33 25, [], []⟩)] .none))))))))))))) := eqn Tryz.f14
def dv.ann : Ann := (.r (.l (.r (.l (.two (.piece [(.nrm, ⟨[(6, vb)], rg 7 5, [], []⟩)] .none) (.r (.l (.piece [(.nrm, ⟨[(15, vb)], rg 16 4, [], []⟩)] .none))))))))
theorem dv.eq_ (g_lex_Name : type_of% R.gD) (g_lex_Run : type_of% R.gi) (g_slices_Contains_string : type_of% R.aK) : Eqn ({ P := Tryz.prog, specs := [(gD.g.sp 128 fun x => g_lex_Name x), (gi.g.sp 129 fun x => g_lex_Run x), (aK.g.sp 131 fun x => g_slices_Contains_string x.1 x.2)], ety := ln Tryz.prog owned, inls := [va 130 (ku.env Tryz.prog) Tryz.f130 .none] } : Env) (dv.g.sp 72 fun x => Res.given (dv.g.i x) (Res.bind (α := Bool) (Res.br (x.1 == 7) (Res.ok ((x.1 == 7))) (Res.br (x.1 == 18) (Res.ok ((x.1 == 18))) (Res.br (x.1 == 19) (Res.ok ((x.1 == 19))) (Res.br (x.1 == 20) (Res.ok ((x.1 == 20))) (Res.ok ((x.1 == 33))))))) fun x1 => Res.br x1 (Res.bind (g_lex_Name x.2.1) fun r2 => Res.ok (r2)) (Res.bind (α := Bool) (Res.br (x.1 == 12) (Res.ok ((x.1 == 12))) (Res.br (x.1 == 13) (Res.ok ((x.1 == 13))) (Res.br (x.1 == 17) (Res.ok ((x.1 == 17))) (Res.ok ((x.1 == 41)))))) fun x3 => Res.br x3 (Res.br (x.2.1 == ([] : List UInt8)) (Res.ok (true)) (Res.bind (g_lex_Name x.2.1) fun r4 => Res.ok (r4))) (Res.br (x.1 == 52) (Res.bind (g_lex_Run x.2.1) fun r5 => Res.ok (r5)) (Res.br (x.1 == 43) (Res.bind (g_slices_Contains_string [[45], [43], [33], [126], [116, 121, 112, 101, 111, 102], [118, 111, 105, 100]] x.2.1) fun r6 => Res.ok (r6)) (Res.br (x.1 == 44) (Res.br (x.1 == 44) (Res.bind (g_slices_Contains_string [[43, 43], [45, 45]] x.2.1) fun r7 => Res.ok (r7)) (Res.br (x.1 == 46) (Res.bind (g_slices_Contains_string [[43], [45], [42], [47], [37], [38], [124], [94], [60, 60], [62, 62], [62, 62, 62], [60], [62], [60, 61], [62, 61], [61, 61], [33, 61], [61, 61, 61], [33, 61, 61], [105, 110]] x.2.1) fun r8 => Res.ok (r8)) (Res.br (x.1 == 47) (Res.bind (g_slices_Contains_string [[38, 38], [124, 124], [63, 63]] x.2.1) fun r9 => Res.ok (r9)) (Res.br (x.1 == 49) (Res.bind (g_slices_Contains_string [[61], [43, 61], [45, 61], [42, 61], [47, 61], [37, 61], [38, 61], [124, 61], [94, 61], [60, 60, 61], [62, 62, 61], [62, 62, 62, 61]] x.2.1) fun r10 => Res.ok (r10)) (Res.ok ((x.2.1 == ([] : List UInt8)))))))) (Res.br (x.1 == 45) (Res.bind (g_slices_Contains_string [[43, 43], [45, 45]] x.2.1) fun r11 => Res.ok (r11)) (Res.br (x.1 == 46) (Res.bind (g_slices_Contains_string [[43], [45], [42], [47], [37], [38], [124], [94], [60, 60], [62, 62], [62, 62, 62], [60], [62], [60, 61], [62, 61], [61, 61], [33, 61], [61, 61, 61], [33, 61, 61], [105, 110]] x.2.1) fun r12 => Res.ok (r12)) (Res.br (x.1 == 47) (Res.bind (g_slices_Contains_string [[38, 38], [124, 124], [63, 63]] x.2.1) fun r13 => Res.ok (r13)) (Res.br (x.1 == 49) (Res.bind (g_slices_Contains_string [[61], [43, 61], [45, 61], [42, 61], [47, 61], [37, 61], [38, 61], [124, 61], [94, 61], [60, 60, 61], [62, 62, 61], [62, 62, 62, 61]] x.2.1) fun r14 => Res.ok (r14)) (Res.ok ((x.2.1 == ([] : List UInt8)))))))))))))) dv.ann := eqn Tryz.f72
theorem dv.eq : Eqn ({ P := Tryz.prog, specs := [gD.spec, gi.spec, aK.spec], ety := ln Tryz.prog owned, inls := [va 130 (ku.env Tryz.prog) Tryz.f130 .none] } : Env) dv.spec dv.ann := dv.eq_ R.gD R.gi R.aK
theorem ef.eq (fu : Nat) : Eqn (Q [(ef.spec fu)]) (ef.g.sp 212 fun x => R.ef (fu + 1) x.1 x.2) (.r (.r (.r (.r (.l (.r (.l (.loop ⟨[(6, (false, (.own .i))), (28, vi)], [8] ++ rg 29 10, [(1, nL)], [4]⟩ [(.ext 0, ⟨[(6, (false, (.own .i)))], [8] ++ rg 28 11, [(1, nL)], [4]⟩)] .none)))))))) := eqn Tryz.f212
theorem iv.eq : Eqn (Q [ji.spec, eh.spec, eO.spec, ed.spec, fA.spec]) iv.spec (.r (.r (.l (.l (.two (.piece [(.nrm, ⟨[(10, vb)], rg 11 21, [], []⟩)] .none) (.r (.r (.r (.r (.r (.l (.piece [(.nrm, ⟨[(41, vb)], rg 42 8, [], []⟩)] .none)))))))))))) := eqn Tryz.f86
theorem cL.eq : Eqn (Q []) cL.spec (.r (.two (.piece [(.nrm, ⟨[], [5, 6, 7], [], []⟩)] .none) (.r (.l (.r (.l (.loop ⟨[(3, vi), (4, vi)], rg 12 12, [], []⟩ [(.ext 0, ⟨[(3, vi)], [4] ++ rg 12 12, [], []⟩)] .none))))))) := eqn Tryz.f41
theorem av.eq : Eqn (Q []) av.spec (.r (.r (.l (.r (.l (.loop ⟨[(3, (false, (.own .h))), (7, vi)], [4] ++ rg 8 10, [], []⟩ [(.ext 0, ⟨[(3, (false, (.own .h)))], [4] ++ rg 7 11, [], []⟩)] .none)))))) := eqn Tryz.f67
theorem eval_run_statement.eq (G : ax) : Eqn (Q [eval_run_act.spec G, bo.spec]) (eval_run_statement.g.sp 196 fun x => R.eval_run_statement G x.1 x.2.1 x.2.2.1 x.2.2.2) .none := eqn Tryz.f196
theorem aT.eq : Eqn (Q [aW.spec]) aT.spec .none := eqn Tryz.f188
theorem fi.eq : Eqn (Q []) fi.spec (.r (.l (.r (.l (.r (.r (.l (.piece [(.nrm, ⟨[(15, vb)], rg 16 4, [], []⟩)] .none)))))))) := eqn Tryz.f36
theorem ee.eq : Eqn (Q [cA.spec, fE.spec, fg.spec]) ee.spec .none := eqn Tryz.f71
theorem au.eq : Eqn (Q [dQ.spec, aH.spec]) au.spec .none := eqn Tryz.f276
theorem cM.eq : Eqn (Q [bZ.spec]) cM.spec .none := eqn Tryz.f385
theorem bL.eq : Eqn (Q [ak.spec]) bL.spec .none := eqn Tryz.f144
theorem bZ.eq : Eqn (Q []) bZ.spec .none := eqn Tryz.f411
theorem bk.eq : Eqn (Q [ew.spec]) bk.spec .none := eqn Tryz.f46
theorem dN.eq : Eqn (Q []) dN.spec .none := eqn Tryz.f157
theorem bt.eq : Eqn (Q []) bt.spec .none := eqn Tryz.f51
theorem fN.eq : Eqn (Q []) fN.spec .none := eqn Tryz.f159
end Go.Mach
set_option linter.unusedVariables false
set_option maxRecDepth 100000
namespace Go.Mach
open Go.Proofs
theorem eval_run_does.eq (G : ax) : Eqn (Q [fH.spec, cU.spec, bc.spec, bt.spec, bX.spec, dC.spec, aZ.spec, cq.spec, eval_run_host.spec G, cO.spec, aC.spec, bl.spec, cM.spec, bY.spec]) (eval_run_does.g.sp 365 fun x => R.eval_run_does G x.1 x.2.1 x.2.2.1 x.2.2.2) (.r (.r (.l (.r (.l (.two (.piece [(.nrm, ⟨[(18, vb)], [19, 20], [], []⟩)] .none) (.r (.r (.r (.r (.r (.r (.r (.r (.r (.r (.two (.l (.l (.piece [(.nrm, ⟨[(79, vb)], rg 67 12, [], []⟩)] .none))) (.r (.r (.r (.r (.r (.r (.r (.r (.l (.piece [(.nrm, ⟨[(134, vb)], rg 135 5, [], []⟩)] .none))))))))))))))))))))))))))) := eqn Tryz.f365
theorem parse_parser_primary.eq (G : bC) : Eqn (Q [aU.spec, aY.spec, parse_parser_assign.spec G, parse_parser_list.spec G, aq.spec, aM.spec, aH.spec, au.spec]) (parse_parser_primary.g.sp 425 fun x => R.parse_parser_primary G x) (.r (.r (.r (.r (.r (.two (.r (.l (.r (.r (.r (.r (.r (.r (.r (.r (.r (.r (.r (.r (.r (.l (.r (.l (.piece [(.nrm, ⟨[(4, vs)], rg 71 6, [(0, aE)], []⟩)] .none))))))))))))))))))) (.r (.l (.l (.piece [(.nrm, ⟨[(99, vb)], rg 94 5, [], []⟩)] .none)))))))))) := eqn Tryz.f425
theorem eval_run_value.eq (G : ax) : Eqn (Q [gv.spec, eK.spec, cU.spec, bt.spec, aZ.spec, bu.spec, eval_run_operation.spec G, eB.spec]) (eval_run_value.g.sp 287 fun x => R.eval_run_value G x.1 x.2.1 x.2.2) (.r (.r (.l (.r (.l (.r (.r (.r (.r (.r (.r (.r (.r (.two (.piece [(.nrm, ⟨[(43, vb)], [44, 45], [], []⟩)] .none) (.r (.r (.r (.r (.r (.r (.r (.r (.r (.l (.piece [(.nrm, ⟨[(82, vb)], [83, 84], [], []⟩)] .none))))))))))))))))))))))))) := eqn Tryz.f287
theorem eF.eq : Eqn (Q [bk.spec, fe.spec]) eF.spec (.r (.r (.l (.r (.l (.r (.two (.l (.l (.piece [(.nrm, ⟨[(24, vb)], rg 17 7, [], []⟩)] .none))) (.two (.piece [(.nrm, ⟨[(36, vb)], rg 37 4, [], []⟩)] .none) (.r (.two (.piece [(.nrm, ⟨[(47, vb)], rg 48 6, [], []⟩)] .none) (.r (.r (.r (.r (.r (.r (.r (.r (.r (.r (.r (.r (.r (.l (.piece [(.nrm, ⟨[(101, vb)], [102, 103], [], []⟩)] .none))))))))))))))))))))))))) := eqn Tryz.f17
theorem parse_parser_both.eq (G : bC) : Eqn (Q [aY.spec, parse_parser_level.spec G, aF.spec]) (parse_parser_both.g.sp 333 fun x => R.parse_parser_both G x.1 x.2) (.r (.l (.l (.loop ⟨[], rg 5 7, [(0, aE), (1, (.box (.frz (.rose aB))))], []⟩ [(.ext 0, ⟨[], rg 5 7, [(0, aE), (1, (.box (.frz (.rose aB))))], []⟩)] .none)))) := eqn Tryz.f333
theorem eval_run_fresh.eq (G : ax) : Eqn (Q [eb.spec, eval_run_builds.spec G, aC.spec, al.spec, av.spec]) (eval_run_fresh.g.sp 329 fun x => R.eval_run_fresh G x.1 x.2.1 x.2.2) (.r (.r (.r (.r (.l (.l (.piece [(.nrm, ⟨[(50, vb)], rg 43 7, [], []⟩)] .none))))))) := eqn Tryz.f329
theorem ep.eq : Eqn (Q [fS.spec, cm.spec, fR.spec]) ep.spec (.r (.r (.two (.l (.piece [(.nrm, ⟨[(31, vb)], rg 19 12, [], []⟩)] .none)) (.l (.r (.l (.r (.r (.r (.r (.l (.piece [(.nrm, ⟨[(64, vb)], [65, 66], [], []⟩)] .none)))))))))))) := eqn Tryz.f78
theorem cQ.eq : Eqn (Q []) cQ.spec (.r (.r (.l (.r (.l (.loop ⟨[(13, vi)], [4, 5] ++ rg 14 12, [], []⟩ [(.ext 0, ⟨[], [4, 5] ++ rg 13 13, [], []⟩), (.ret, ⟨[(4, vb)], [5] ++ rg 13 13, [], []⟩)] .none)))))) := eqn Tryz.f166
theorem bU.eq : Eqn (Q [dQ.spec, aH.spec, aF.spec]) bU.spec (.r (.l (.l (.piece [(.nrm, ⟨[(19, vb)], rg 5 14, [(0, aE)], []⟩)] .none)))) := eqn Tryz.f240
theorem dG.eq : Eqn (Q [bc.spec, al.spec, av.spec]) dG.spec (.r (.r (.l (.r (.l (.piece [(.nrm, ⟨[(33, vb)], rg 28 5, [], []⟩)] .none)))))) := eqn Tryz.f81
theorem fE.eq : Eqn (Q [ff.spec, fc.spec, bw.spec, cL.spec, eu.spec]) fE.spec .none := eqn Tryz.f127
theorem aj.eq : Eqn (Q [cH.spec]) aj.spec .none := eqn Tryz.f236
theorem cg.eq : Eqn (Q [cP.spec, bF.spec]) cg.spec .none := eqn Tryz.f357
theorem cr.eq : Eqn (Q [er.spec, eH.spec]) cr.spec .none := eqn Tryz.f266
theorem gZ.eq : Eqn (Q [eh.spec, ed.spec, gQ.spec]) gZ.spec .none := eqn Tryz.f59
theorem al.eq : Eqn (Q [bj.spec]) al.spec .none := eqn Tryz.f147
theorem eV.eq : Eqn (Q [fB.spec]) eV.spec .none := eqn Tryz.f120
theorem bd.eq : Eqn (Q []) bd.spec .none := eqn Tryz.f11
theorem dM.eq : Eqn (Q []) dM.spec .none := eqn Tryz.f16
theorem gY.eq : Eqn (Q []) gY.spec .none := eqn Tryz.f229
theorem bX.eq : Eqn (Q []) bX.spec .none := eqn Tryz.f367
end Go.Mach
set_option linter.unusedVariables false
set_option maxRecDepth 100000
namespace Go.Mach
open Go.Proofs
def parse_parser_declares.ann : Ann := (.r (.r (.two (.piece [(.nrm, ⟨[], rg 6 5, [(0, aE), (3, (.box ke))], [2]⟩)] .none) (.l (.loop ⟨[], [4] ++ rg 11 27, [(0, aE), (3, (.box ke))], [5]⟩ [(.ret, ⟨[], [4] ++ rg 11 27, [(0, aE), (1, (.box ke))], [3, 5]⟩)] (.l (.r (.two (.piece [(.nrm, ⟨[], rg 14 9, [(0, aE), (12, (.box ke))], [11]⟩)] .none) (.r (.l (.piece [(.nrm, ⟨[(36, vb)], rg 29 7, [(0, aE)], []⟩)] .none)))))))))))
theorem parse_parser_declares.eq_ (g_parse_made : type_of% R.aU) (g_parse_named : type_of% R.aY) (g_parse_parser_fine : type_of% R.bH) (g_parse_parser_name : type_of% R.aq) (g_parse_parser_need : type_of% R.aM) (g_parse_parser_take : type_of% R.aF) (G : bC) : Eqn (Q [(aU.g.sp 209 fun x => g_parse_made x.1 x.2), (aY.g.sp 272 fun x => g_parse_named x.1 x.2.1 x.2.2), parse_parser_assign.spec G, (bH.g.sp 274 fun x => g_parse_parser_fine x), (aq.g.sp 242 fun x => g_parse_parser_name x), (aM.g.sp 271 fun x => g_parse_parser_need x.1 x.2), (aF.g.sp 241 fun x => g_parse_parser_take x.1 x.2)]) (parse_parser_declares.g.sp 239 fun x => Res.given (parse_parser_declares.g.i x) (Res.bind (g_parse_made 5 ([] : List (aI aB.den))) fun r1 => Res.given (aU.g.o r1) (Res.bind (α := (aE.den × (aB.den × (List (aI aB.den))))) (Res.bind (g_parse_parser_take x [99, 111, 110, 115, 116]) fun r2 => Res.given (aF.g.o r2) (Res.br r2.1 (Res.bind (g_parse_made 6 ([] : List (aI aB.den))) fun r3 => Res.given (aU.g.o r3) (Res.ok ((r2.2, r3)))) (Res.bind (g_parse_parser_need r2.2 [108, 101, 116]) fun r4 => Res.given (aM.g.o r4) (Res.ok ((r4.2, r1)))))) fun x5 => Res.bind (Res.loop (α := (aE.den × (aB.den × (List (aI aB.den))))) (β := (aE.den × (aB.den × (List (aI aB.den))))) (fun x6 => Res.bind (g_parse_parser_name x6.1) fun r7 => Res.given (aq.g.o r7) (Res.bind (g_parse_named 7 r7.1 ([] : List (aI aB.den))) fun r8 => Res.given (aY.g.o r8) (Res.bind (α := (aE.den × (aB.den × (List (aI aB.den))))) (Res.bind (g_parse_parser_take r7.2 [61]) fun r9 => Res.given (aF.g.o r9) (Res.br r9.1 (Res.bind (G.parse_parser_assign r9.2) fun r10 => Res.given (parse_parser_assign.g.o r10) (Res.bB (decide ((r8.2.length + [(aI.mk (aI.lab r10.1) (aI.kids r10.1))].length) * 144 ≤ 2 ^ 47)) (Res.ok ((r10.2, (r8.1, (r8.2 ++ [(aI.mk (aI.lab r10.1) (aI.kids r10.1))]))))))) (Res.ok ((r9.2, r8))))) fun x11 => Res.bB (decide ((x6.2.2.length + [(aI.mk x11.2.1 x11.2.2)].length) * 144 ≤ 2 ^ 47)) (Res.bind (α := (Bool × aE.den)) (Res.bind (g_parse_parser_fine x11.1) fun r12 => Res.br (!r12) (Res.ok ((true, x11.1))) (Res.bind (g_parse_parser_take x11.1 [44]) fun r13 => Res.given (aF.g.o r13) (Res.ok (((!r13.1), r13.2))))) fun x14 => Res.br x14.1 (Res.ok (.done ((x14.2, (x6.2.1, (x6.2.2 ++ [(aI.mk x11.2.1 x11.2.2)])))))) (Res.ok (.next ((x14.2, (x6.2.1, (x6.2.2 ++ [(aI.mk x11.2.1 x11.2.2)])))))))))) fuel x5) fun x15 => Res.ok (((aI.mk x15.2.1 x15.2.2), x15.1))))) parse_parser_declares.ann := eqn Tryz.f239
theorem parse_parser_declares.eq (G : bC) : Eqn (Q [aU.spec, aY.spec, parse_parser_assign.spec G, bH.spec, aq.spec, aM.spec, aF.spec]) (parse_parser_declares.g.sp 239 fun x => R.parse_parser_declares G x) parse_parser_declares.ann := parse_parser_declares.eq_ R.aU R.aY R.bH R.aq R.aM R.aF G
theorem eval_run_arguments.eq (G : ax) : Eqn (Q [eval_run_expression.spec G]) (eval_run_arguments.g.sp 328 fun x => R.eval_run_arguments G x.1 x.2.1 x.2.2) (.r (.r (.l (.r (.l (.loop ⟨[(9, (false, (.own (.frz aA)))), (16, vi)], [6, 8, 11, 12, 13] ++ rg 17 19, [(2, aJ)], [0, 1]⟩ [(.ext 0, ⟨[(9, (false, (.own (.frz aA))))], [6, 8, 11, 12, 13] ++ rg 16 20, [(2, aJ)], [0, 1]⟩), (.ret, ⟨[(6, (false, (.own (.frz aA)))), (8, vi)], [9, 11, 12, 13] ++ rg 16 20, [(2, aJ), (4, (.box (.frz aA)))], [0, 1]⟩)] .none)))))) := eqn Tryz.f328
theorem parse_parser_head.eq (G : bC) : Eqn (Q [aU.spec, parse_parser_arguments.spec G, parse_parser_head.spec G, parse_parser_member.spec G, au.spec, parse_parser_primary.spec G, aF.spec]) (parse_parser_head.g.sp 403 fun x => R.parse_parser_head G x) (.r (.r (.r (.l (.l (.loop ⟨[(4, vb)], rg 13 7, [(0, aE), (4, (.box (.frz (.rose aB))))], []⟩ [(.ext 0, ⟨[], [4] ++ rg 13 7, [(0, aE), (4, (.box (.frz (.rose aB))))], []⟩)] .none)))))) := eqn Tryz.f403
theorem parse_parser_statement.eq (G : bC) : Eqn (Q [dQ.spec, aU.spec, aY.spec, aX.spec, aH.spec, au.spec, parse_parser_simple.spec G, parse_parser_statement.spec G, aF.spec, parse_parser_word.spec G]) (parse_parser_statement.g.sp 244 fun x => R.parse_parser_statement G x) (.r (.r (.l (.l (.l (.piece [(.nrm, ⟨[(6, vb)], rg 7 8, [], []⟩)] .none)))))) := eqn Tryz.f244
theorem iw.eq : Eqn (Q [eh.spec, gH.spec, eO.spec, ed.spec, dN.spec, fA.spec, fN.spec]) iw.spec (.r (.r (.r (.l (.l (.two (.piece [(.nrm, ⟨[(16, vb)], rg 17 22, [], []⟩)] .none) (.r (.two (.piece [(.nrm, ⟨[(40, vb)], rg 41 6, [], []⟩)] .none) (.r (.l (.piece [(.nrm, ⟨[(49, vb)], rg 50 6, [], []⟩)] .none))))))))))) := eqn Tryz.f89
theorem bw.eq : Eqn (Q [aU.spec, parse_parser_item.spec (cI fuel), aH.spec]) bw.spec (.r (.r (.l (.l (.loop ⟨[], rg 5 11, [(0, aE), (3, (.box ke))], [2]⟩ [(.ext 0, ⟨[], rg 5 11, [(0, aE), (3, (.box ke))], [2]⟩)] .none))))) := eqn Tryz.f179
theorem fk.eq : Eqn (Q []) fk.spec (.r (.l (.l (.loop ⟨[(0, (false, (.own .w)))], rg 3 17, [], [0]⟩ [(.ext 0, ⟨[(0, (false, (.own .w)))], rg 3 17, [], [0]⟩)] (.l (.l (.piece [(.nrm, ⟨[(14, vb)], rg 3 11, [], []⟩)] .none))))))) := eqn Tryz.f124
theorem fS.eq : Eqn (Q [dK.spec, cm.spec, aT.spec]) fS.spec (.r (.l (.l (.piece [(.nrm, ⟨[(37, vb)], rg 8 29, [], []⟩)] .none)))) := eqn Tryz.f139
theorem az.eq : Eqn (Q [bj.spec, cD.spec, dp.spec]) az.spec (.r (.l (.l (.piece [(.nrm, ⟨[(24, vb)], rg 14 10, [], []⟩)] .none)))) := eqn Tryz.f194
theorem dU.eq : Eqn (Q [bc.spec, ga.spec, aZ.spec, dF.spec, aC.spec]) dU.spec .none := eqn Tryz.f352
theorem fm.eq : Eqn (Q []) fm.spec (.r (.l (.r (.l (.l (.piece [(.nrm, ⟨[(4, vb)], rg 5 33, [], []⟩)] .none)))))) := eqn Tryz.f337
theorem du.eq : Eqn (Q [bk.spec, eK.spec, cc.spec]) du.spec .none := eqn Tryz.f54
theorem bV.eq : Eqn (Q [eH.spec]) bV.spec .none := eqn Tryz.f236
theorem cJ.eq : Eqn (Q [ee.spec, dq.spec]) cJ.spec .none := eqn Tryz.f33
theorem bl.eq : Eqn (Q [bj.spec]) bl.spec .none := eqn Tryz.f350
theorem fc.eq : Eqn (Q [(ef.spec fuel)]) fc.spec .none := eqn Tryz.f180
theorem aY.eq : Eqn (Q []) aY.spec .none := eqn Tryz.f272
theorem er.eq : Eqn (Q []) er.spec .none := eqn Tryz.f183
theorem iH.eq : Eqn (Q []) iH.spec .none := eqn Tryz.f44
end Go.Mach
