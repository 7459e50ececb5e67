/-
  Proved here: the law renlaw12.EvalThrows returns true for every input of the stated bulk and leaves its arguments as they were; no further condition.
  By an AI agent; no person has read it.
-/
import Derived.Test.YtimhplnifencnaaGreatDoorParte
import Derived.KernelRfl
import Derived.Test.YtimhplnifencnaaGreatDoorProg
set_option linter.all false
set_option linter.deprecated false
set_option linter.unusedVariables false
set_option maxRecDepth 100000
namespace Go.Mach
open Go.Proofs
theorem parse_parser_either.eq (G : a8) : Eqn (Q [aX.spec, parse_parser_both.spec G, parse_parser_level.spec G, al.spec, aE.spec]) (parse_parser_either.g.sp 318 fun x => R.parse_parser_either G x) (.r (.r (.two (.r (.l (.two (.l (.loop ⟨[], rg 8 7, [(0, aD), (3, (.box (.frz (.rose aB))))], []⟩ [(.ext 0, ⟨[], rg 8 7, [(0, aD), (3, (.box (.frz (.rose aB))))], []⟩)] .none)) (.l (.piece [(.nrm, ⟨[], rg 15 6, [], []⟩)] (.l (.piece [(.nrm, ⟨[(20, vb)], rg 15 5, [], []⟩)] .none))))))) (.r (.l (.l (.loop ⟨[], rg 27 9, [(0, aD), (3, (.box (.frz (.rose aB))))], []⟩ [(.ext 2, ⟨[], rg 27 9, [(0, aD), (3, (.box (.frz (.rose aB))))], []⟩)] .none))))))) := eqn Tryz.f318
theorem cz.eq : Eqn (Q [gO.spec, bx.spec, az.spec, eh.spec]) cz.spec (.r (.r (.two (.l (.loop ⟨[(4, vi)], [3, 5, 6] ++ rg 19 52, [], []⟩ [(.ext 0, ⟨[], rg 3 4 ++ rg 19 52, [], []⟩), (.ret, ⟨[(3, vi)], [4, 5, 6] ++ rg 19 52, [(0, bP), (1, (.box (.seq .i (.seq .s (.seq (.own .h) (.seq (.frz aL) (.seq (.seq .b (.own .w)) (.seq .i .b))))))))], []⟩)] (.r (.l (.l (.r (.l (.l (.piece [(.nrm, ⟨[(56, vb)], rg 42 14, [], []⟩)] .none))))))))) (.r (.l (.l (.piece [(.nrm, ⟨[(101, vb)], rg 81 20, [], []⟩)] .none))))))) := eqn Tryz.f237
theorem gI.eq : Eqn (Q [hB.spec, iL.spec, fh.spec, bN.spec]) gI.spec (.r (.r (.r (.r (.l (.l (.loop ⟨[(3, (false, (.own .w))), (4, (false, (.own .y)))], [5, 6] ++ rg 12 34, [], [2]⟩ [(.ext 0, ⟨[(4, (false, (.own .y)))], [3, 5, 6] ++ rg 12 34, [], [2]⟩)] (.r (.l (.r (.l (.r (.l (.loop ⟨[(5, (false, (.frz (.int .u64)))), (6, vi)], rg 18 20, [(3, (.own .w))], []⟩ [(.ext 2, ⟨[(5, (false, (.frz (.int .u64))))], [6] ++ rg 18 20, [(3, (.own .w))], []⟩)] .none)))))))))))))) := eqn Tryz.f69
theorem eval_run_builds.eq (G : aw) : Eqn (Q [cK.spec, bT.spec, ai.spec, eval_run_does.spec G, aY.spec, cj.spec, aC.spec, cw.spec, fZ.spec]) (eval_run_builds.g.sp 347 fun x => R.eval_run_builds G x.1 x.2.1 x.2.2) (.r (.l (.r (.l (.two (.piece [(.nrm, ⟨[(12, vb)], rg 13 5, [], []⟩)] .none) (.r (.l (.piece [(.nrm, ⟨[(22, vb)], rg 23 5, [], []⟩)] .none)))))))) := eqn Tryz.f347
theorem eval_run_list.eq (G : aw) : Eqn (Q [eval_run_statement.spec G]) (eval_run_list.g.sp 146 fun x => R.eval_run_list G x.1 x.2.1 x.2.2) (.r (.l (.r (.l (.loop ⟨[(12, vi)], [8, 9] ++ rg 13 12, [(2, aH)], [0, 1]⟩ [(.ext 0, ⟨[], [8, 9] ++ rg 12 13, [(2, aH)], [0, 1]⟩), (.ret, ⟨[], [8, 9] ++ rg 12 13, [(2, aH), (4, (.box (.frz af)))], [0, 1]⟩)] .none))))) := eqn Tryz.f146
theorem ec.eq : Eqn (Q []) ec.spec (.r (.l (.r (.l (.two (.piece [(.nrm, ⟨[(4, vb)], [5, 6], [], []⟩)] .none) (.r (.two (.piece [(.nrm, ⟨[(7, vb)], [8, 9], [], []⟩)] .none) (.r (.two (.piece [(.nrm, ⟨[(10, vb)], [11, 12], [], []⟩)] .none) (.r (.l (.piece [(.nrm, ⟨[(13, vb)], [14, 15], [], []⟩)] .none)))))))))))) := eqn Tryz.f21
theorem eh.eq : Eqn (Q []) eh.spec (.r (.r (.l (.r (.l (.loop ⟨[(4, (false, (.own .y))), (9, vi)], [2, 3, 6] ++ rg 10 11, [], []⟩ [(.ext 0, ⟨[(4, (false, (.own .y)))], [2, 3, 6] ++ rg 9 12, [], []⟩), (.ret, ⟨[(2, vs), (3, vb)], [4, 6] ++ rg 9 12, [], []⟩)] .none)))))) := eqn Tryz.f112
theorem dH.eq : Eqn (Q [fD.spec, fg.spec, dp.spec]) dH.spec (.r (.two (.l (.piece [(.nrm, ⟨[(50, vb)], rg 3 47, [], []⟩)] .none)) (.l (.r (.l (.l (.piece [(.nrm, ⟨[(53, vb)], [54, 55], [], []⟩)] .none))))))) := eqn Tryz.f39
theorem cD.eq : Eqn (Q []) cD.spec (.r (.l (.r (.l (.two (.piece [(.nrm, ⟨[(5, vb)], rg 6 4, [], []⟩)] .none) (.r (.l (.piece [(.nrm, ⟨[(10, vb)], rg 11 6, [], []⟩)] .none)))))))) := eqn Tryz.f296
theorem gO.eq : Eqn (Q []) gO.spec (.r (.l (.r (.l (.two (.piece [(.nrm, ⟨[(4, vb)], rg 5 50, [], []⟩)] .none) (.r (.l (.piece [(.nrm, ⟨[(55, vb)], rg 56 7, [], []⟩)] .none)))))))) := eqn Tryz.f270
theorem aR.eq : Eqn (Q [aT.spec]) aR.spec .none := eqn Tryz.f119
theorem gG.eq : Eqn (Q [fL.spec]) gG.spec (.r (.l (.r (.l (.piece [(.nrm, ⟨[(13, vb)], rg 6 7, [], []⟩)] .none))))) := eqn Tryz.f390
theorem bz.eq : Eqn (Q [aP.spec]) bz.spec .none := eqn Tryz.f216
theorem dh.eq : Eqn (Q [fi 109 (.int .u32), fi 70 (.int .u16)]) dh.spec .none := eqn Tryz.f217
theorem cQ.eq : Eqn (Q [ba.spec]) cQ.spec .none := eqn Tryz.f394
theorem fC.eq : Eqn (Q [bc.spec, gV.spec]) fC.spec .none := eqn Tryz.f20
theorem bt.eq : Eqn (Q []) bt.spec .none := eqn Tryz.f435
theorem cx.eq : Eqn (Q []) cx.spec .none := eqn Tryz.f247
theorem dP.eq : Eqn (Q []) dP.spec .none := eqn Tryz.f397
theorem fp.eq : Eqn (Q []) fp.spec .none := eqn Tryz.f74
theorem gL.eq : Eqn (Q []) gL.spec .none := eqn Tryz.f108
end Go.Mach
set_option linter.unusedVariables false
set_option maxRecDepth 100000
namespace Go.Mach
open Go.Proofs
theorem fX.eq : Eqn (Q [eP.spec]) fX.spec (.r (.l (.r (.l (.two (.piece [(.nrm, ⟨[(7, vb)], [8, 9], [], []⟩)] .none) (.r (.two (.piece [(.nrm, ⟨[(10, vb)], rg 11 5, [], []⟩)] .none) (.r (.two (.piece [(.nrm, ⟨[(17, vb)], [18, 19], [], []⟩)] .none) (.r (.two (.piece [(.nrm, ⟨[(21, vb)], [22, 23], [], []⟩)] .none) (.r (.r (.r (.r (.r (.r (.r (.r (.r (.r (.r (.r (.r (.two (.piece [(.nrm, ⟨[(50, vb)], [51, 52], [], []⟩)] .none) (.r (.r (.r (.r (.r (.r (.r (.two (.piece [(.nrm, ⟨[(63, vb)], [64, 65], [], []⟩)] .none) (.r (.two (.piece [(.nrm, ⟨[(67, vb)], [68, 69, 70], [], []⟩)] .none) (.r (.r (.r (.r (.r (.l (.piece [(.nrm, ⟨[(78, vb)], [79, 80], [], []⟩)] .none)))))))))))))))))))))))))))))))))))))))))) := eqn Tryz.f73
theorem et.eq : Eqn (Q [bg.spec, au.spec, ev.spec]) et.spec (.r (.r (.l (.r (.l (.loop ⟨[(3, vb), (8, vi)], [2, 5] ++ rg 9 28, [], []⟩ [(.ext 0, ⟨[(3, vb)], [2, 5] ++ rg 8 29, [], []⟩), (.ret, ⟨[(2, vb)], [3, 5] ++ rg 8 29, [], []⟩)] (.r (.r (.l (.l (.r (.two (.piece [(.nrm, ⟨[(3, vb)], rg 12 5, [], []⟩)] .none) (.l (.l (.piece [(.nrm, ⟨[(17, vb)], rg 18 14, [], []⟩)] (.r (.r (.l (.piece [(.nrm, ⟨[(17, vb)], rg 20 6, [], []⟩)] .none))))))))))))))))))) := eqn Tryz.f117
theorem eH.eq : Eqn (Q [cI.spec, ej.spec, dH.spec, fe.spec, fJ.spec]) eH.spec (.r (.two (.l (.piece [(.nrm, ⟨[(26, vb)], rg 4 22, [], []⟩)] .none)) (.l (.r (.l (.loop ⟨[(30, vi)], [2, 3] ++ rg 31 29, [], []⟩ [(.ext 0, ⟨[], [2, 3] ++ rg 30 30, [], []⟩), (.ret, ⟨[(2, vb)], [3] ++ rg 30 30, [], []⟩)] (.r (.r (.l (.l (.r (.l (.piece [(.nrm, ⟨[(58, vb)], rg 33 25, [], []⟩)] .none))))))))))))) := eqn Tryz.f14
def dp.ann : Ann := (.r (.l (.r (.l (.two (.piece [(.nrm, ⟨[(6, vb)], rg 7 5, [], []⟩)] .none) (.r (.l (.piece [(.nrm, ⟨[(15, vb)], rg 16 4, [], []⟩)] .none))))))))
theorem dp.eq_ (g_lex_Name : type_of% R.gB) (g_lex_Run : type_of% R.gZ) (g_slices_Contains_string : type_of% R.aJ) : Eqn ({ P := Tryz.prog, specs := [(gB.g.sp 128 fun x => g_lex_Name x), (gZ.g.sp 129 fun x => g_lex_Run x), (aJ.g.sp 131 fun x => g_slices_Contains_string x.1 x.2)], ety := lR Tryz.prog owned, inls := [vJ 130 (kY.env Tryz.prog) Tryz.f130 .none] } : Env) (dp.g.sp 72 fun x => Res.given (dp.g.i x) (Res.bind (α := Bool) (Res.br (x.1 == 7) (Res.ok ((x.1 == 7))) (Res.br (x.1 == 18) (Res.ok ((x.1 == 18))) (Res.br (x.1 == 19) (Res.ok ((x.1 == 19))) (Res.br (x.1 == 20) (Res.ok ((x.1 == 20))) (Res.ok ((x.1 == 33))))))) fun x1 => Res.br x1 (Res.bind (g_lex_Name x.2.1) fun r2 => Res.ok (r2)) (Res.bind (α := Bool) (Res.br (x.1 == 12) (Res.ok ((x.1 == 12))) (Res.br (x.1 == 13) (Res.ok ((x.1 == 13))) (Res.br (x.1 == 17) (Res.ok ((x.1 == 17))) (Res.ok ((x.1 == 41)))))) fun x3 => Res.br x3 (Res.br (x.2.1 == ([] : List UInt8)) (Res.ok (true)) (Res.bind (g_lex_Name x.2.1) fun r4 => Res.ok (r4))) (Res.br (x.1 == 52) (Res.bind (g_lex_Run x.2.1) fun r5 => Res.ok (r5)) (Res.br (x.1 == 43) (Res.bind (g_slices_Contains_string [[45], [43], [33], [126], [116, 121, 112, 101, 111, 102], [118, 111, 105, 100]] x.2.1) fun r6 => Res.ok (r6)) (Res.br (x.1 == 44) (Res.br (x.1 == 44) (Res.bind (g_slices_Contains_string [[43, 43], [45, 45]] x.2.1) fun r7 => Res.ok (r7)) (Res.br (x.1 == 46) (Res.bind (g_slices_Contains_string [[43], [45], [42], [47], [37], [38], [124], [94], [60, 60], [62, 62], [62, 62, 62], [60], [62], [60, 61], [62, 61], [61, 61], [33, 61], [61, 61, 61], [33, 61, 61], [105, 110]] x.2.1) fun r8 => Res.ok (r8)) (Res.br (x.1 == 47) (Res.bind (g_slices_Contains_string [[38, 38], [124, 124], [63, 63]] x.2.1) fun r9 => Res.ok (r9)) (Res.br (x.1 == 49) (Res.bind (g_slices_Contains_string [[61], [43, 61], [45, 61], [42, 61], [47, 61], [37, 61], [38, 61], [124, 61], [94, 61], [60, 60, 61], [62, 62, 61], [62, 62, 62, 61]] x.2.1) fun r10 => Res.ok (r10)) (Res.ok ((x.2.1 == ([] : List UInt8)))))))) (Res.br (x.1 == 45) (Res.bind (g_slices_Contains_string [[43, 43], [45, 45]] x.2.1) fun r11 => Res.ok (r11)) (Res.br (x.1 == 46) (Res.bind (g_slices_Contains_string [[43], [45], [42], [47], [37], [38], [124], [94], [60, 60], [62, 62], [62, 62, 62], [60], [62], [60, 61], [62, 61], [61, 61], [33, 61], [61, 61, 61], [33, 61, 61], [105, 110]] x.2.1) fun r12 => Res.ok (r12)) (Res.br (x.1 == 47) (Res.bind (g_slices_Contains_string [[38, 38], [124, 124], [63, 63]] x.2.1) fun r13 => Res.ok (r13)) (Res.br (x.1 == 49) (Res.bind (g_slices_Contains_string [[61], [43, 61], [45, 61], [42, 61], [47, 61], [37, 61], [38, 61], [124, 61], [94, 61], [60, 60, 61], [62, 62, 61], [62, 62, 62, 61]] x.2.1) fun r14 => Res.ok (r14)) (Res.ok ((x.2.1 == ([] : List UInt8)))))))))))))) dp.ann := eqn Tryz.f72
theorem dp.eq : Eqn ({ P := Tryz.prog, specs := [gB.spec, gZ.spec, aJ.spec], ety := lR Tryz.prog owned, inls := [vJ 130 (kY.env Tryz.prog) Tryz.f130 .none] } : Env) dp.spec dp.ann := dp.eq_ R.gB R.gZ R.aJ
theorem ea.eq (fu : Nat) : Eqn (Q [(ea.spec fu)]) (ea.g.sp 212 fun x => R.ea (fu + 1) x.1 x.2) (.r (.r (.r (.r (.l (.r (.l (.loop ⟨[(6, (false, (.own .i))), (28, vi)], [8] ++ rg 29 10, [(1, nJ)], [4]⟩ [(.ext 0, ⟨[(6, (false, (.own .i)))], [8] ++ rg 28 11, [(1, nJ)], [4]⟩)] .none)))))))) := eqn Tryz.f212
theorem iZ.eq : Eqn (Q [jd.spec, eg.spec, eK.spec, eb.spec, eu.spec]) iZ.spec (.r (.r (.l (.l (.two (.piece [(.nrm, ⟨[(10, vb)], rg 11 21, [], []⟩)] .none) (.r (.r (.r (.r (.r (.l (.piece [(.nrm, ⟨[(41, vb)], rg 42 8, [], []⟩)] .none)))))))))))) := eqn Tryz.f86
theorem cI.eq : Eqn (Q []) cI.spec (.r (.two (.piece [(.nrm, ⟨[], [5, 6, 7], [], []⟩)] .none) (.r (.l (.r (.l (.loop ⟨[(3, vi), (4, vi)], rg 12 12, [], []⟩ [(.ext 0, ⟨[(3, vi)], [4] ++ rg 12 12, [], []⟩)] .none))))))) := eqn Tryz.f41
theorem au.eq : Eqn (Q []) au.spec (.r (.r (.l (.r (.l (.loop ⟨[(3, (false, (.own .h))), (7, vi)], [4] ++ rg 8 10, [], []⟩ [(.ext 0, ⟨[(3, (false, (.own .h)))], [4] ++ rg 7 11, [], []⟩)] .none)))))) := eqn Tryz.f67
theorem eval_run_statement.eq (G : aw) : Eqn (Q [eval_run_act.spec G, bh.spec]) (eval_run_statement.g.sp 196 fun x => R.eval_run_statement G x.1 x.2.1 x.2.2.1 x.2.2.2) .none := eqn Tryz.f196
theorem aS.eq : Eqn (Q [aU.spec]) aS.spec .none := eqn Tryz.f188
theorem fg.eq : Eqn (Q []) fg.spec (.r (.l (.r (.l (.r (.r (.l (.piece [(.nrm, ⟨[(15, vb)], rg 16 4, [], []⟩)] .none)))))))) := eqn Tryz.f36
theorem eU.eq : Eqn (Q [cO.spec, ew.spec, fY.spec]) eU.spec .none := eqn Tryz.f71
theorem al.eq : Eqn (Q [dM.spec, aF.spec]) al.spec .none := eqn Tryz.f276
theorem cJ.eq : Eqn (Q [bV.spec]) cJ.spec .none := eqn Tryz.f385
theorem bJ.eq : Eqn (Q [ai.spec]) bJ.spec .none := eqn Tryz.f144
theorem bV.eq : Eqn (Q []) bV.spec .none := eqn Tryz.f411
theorem bc.eq : Eqn (Q [er.spec]) bc.spec .none := eqn Tryz.f46
theorem dE.eq : Eqn (Q []) dE.spec .none := eqn Tryz.f157
theorem bj.eq : Eqn (Q []) bj.spec .none := eqn Tryz.f51
theorem fK.eq : Eqn (Q []) fK.spec .none := eqn Tryz.f159
end Go.Mach
set_option linter.unusedVariables false
set_option maxRecDepth 100000
namespace Go.Mach
open Go.Proofs
theorem eval_run_does.eq (G : aw) : Eqn (Q [fC.spec, cR.spec, bZ.spec, bj.spec, bT.spec, dA.spec, aY.spec, ch.spec, eval_run_host.spec G, cM.spec, aC.spec, bf.spec, cJ.spec, bU.spec]) (eval_run_does.g.sp 365 fun x => R.eval_run_does G x.1 x.2.1 x.2.2.1 x.2.2.2) (.r (.r (.l (.r (.l (.two (.piece [(.nrm, ⟨[(18, vb)], [19, 20], [], []⟩)] .none) (.r (.r (.r (.r (.r (.r (.r (.r (.r (.r (.two (.l (.l (.piece [(.nrm, ⟨[(79, vb)], rg 67 12, [], []⟩)] .none))) (.r (.r (.r (.r (.r (.r (.r (.r (.l (.piece [(.nrm, ⟨[(134, vb)], rg 135 5, [], []⟩)] .none))))))))))))))))))))))))))) := eqn Tryz.f365
theorem parse_parser_primary.eq (G : a8) : Eqn (Q [aV.spec, aX.spec, parse_parser_assign.spec G, parse_parser_list.spec G, ak.spec, aM.spec, aF.spec, al.spec]) (parse_parser_primary.g.sp 425 fun x => R.parse_parser_primary G x) (.r (.r (.r (.r (.r (.two (.r (.l (.r (.r (.r (.r (.r (.r (.r (.r (.r (.r (.r (.r (.r (.l (.r (.l (.piece [(.nrm, ⟨[(4, vs)], rg 71 6, [(0, aD)], []⟩)] .none))))))))))))))))))) (.r (.l (.l (.piece [(.nrm, ⟨[(99, vb)], rg 94 5, [], []⟩)] .none)))))))))) := eqn Tryz.f425
theorem eval_run_value.eq (G : aw) : Eqn (Q [gl.spec, eG.spec, cR.spec, bj.spec, aY.spec, bk.spec, eval_run_operation.spec G, dz.spec]) (eval_run_value.g.sp 287 fun x => R.eval_run_value G x.1 x.2.1 x.2.2) (.r (.r (.l (.r (.l (.r (.r (.r (.r (.r (.r (.r (.r (.two (.piece [(.nrm, ⟨[(43, vb)], [44, 45], [], []⟩)] .none) (.r (.r (.r (.r (.r (.r (.r (.r (.r (.l (.piece [(.nrm, ⟨[(82, vb)], [83, 84], [], []⟩)] .none))))))))))))))))))))))))) := eqn Tryz.f287
theorem eC.eq : Eqn (Q [bc.spec, fS.spec]) eC.spec (.r (.r (.l (.r (.l (.r (.two (.l (.l (.piece [(.nrm, ⟨[(24, vb)], rg 17 7, [], []⟩)] .none))) (.two (.piece [(.nrm, ⟨[(36, vb)], rg 37 4, [], []⟩)] .none) (.r (.two (.piece [(.nrm, ⟨[(47, vb)], rg 48 6, [], []⟩)] .none) (.r (.r (.r (.r (.r (.r (.r (.r (.r (.r (.r (.r (.r (.l (.piece [(.nrm, ⟨[(101, vb)], [102, 103], [], []⟩)] .none))))))))))))))))))))))))) := eqn Tryz.f17
theorem parse_parser_both.eq (G : a8) : Eqn (Q [aX.spec, parse_parser_level.spec G, aE.spec]) (parse_parser_both.g.sp 333 fun x => R.parse_parser_both G x.1 x.2) (.r (.l (.l (.loop ⟨[], rg 5 7, [(0, aD), (1, (.box (.frz (.rose aB))))], []⟩ [(.ext 0, ⟨[], rg 5 7, [(0, aD), (1, (.box (.frz (.rose aB))))], []⟩)] .none)))) := eqn Tryz.f333
theorem eval_run_fresh.eq (G : aw) : Eqn (Q [eV.spec, eval_run_builds.spec G, aC.spec, aj.spec, au.spec]) (eval_run_fresh.g.sp 329 fun x => R.eval_run_fresh G x.1 x.2.1 x.2.2) (.r (.r (.r (.r (.l (.l (.piece [(.nrm, ⟨[(50, vb)], rg 43 7, [], []⟩)] .none))))))) := eqn Tryz.f329
theorem ei.eq : Eqn (Q [fP.spec, cf.spec, fQ.spec]) ei.spec (.r (.r (.two (.l (.piece [(.nrm, ⟨[(31, vb)], rg 19 12, [], []⟩)] .none)) (.l (.r (.l (.r (.r (.r (.r (.l (.piece [(.nrm, ⟨[(64, vb)], [65, 66], [], []⟩)] .none)))))))))))) := eqn Tryz.f78
theorem cN.eq : Eqn (Q []) cN.spec (.r (.r (.l (.r (.l (.loop ⟨[(13, vi)], [4, 5] ++ rg 14 12, [], []⟩ [(.ext 0, ⟨[], [4, 5] ++ rg 13 13, [], []⟩), (.ret, ⟨[(4, vb)], [5] ++ rg 13 13, [], []⟩)] .none)))))) := eqn Tryz.f166
theorem bQ.eq : Eqn (Q [dM.spec, aF.spec, aE.spec]) bQ.spec (.r (.l (.l (.piece [(.nrm, ⟨[(19, vb)], rg 5 14, [(0, aD)], []⟩)] .none)))) := eqn Tryz.f240
theorem cp.eq : Eqn (Q [bZ.spec, aj.spec, au.spec]) cp.spec (.r (.r (.l (.r (.l (.piece [(.nrm, ⟨[(33, vb)], rg 28 5, [], []⟩)] .none)))))) := eqn Tryz.f81
theorem ew.eq : Eqn (Q [fV.spec, fb.spec, bn.spec, cI.spec, ej.spec]) ew.spec .none := eqn Tryz.f127
theorem ah.eq : Eqn (Q [cD.spec]) ah.spec .none := eqn Tryz.f236
theorem cb.eq : Eqn (Q [cL.spec, bB.spec]) cb.spec .none := eqn Tryz.f357
theorem cn.eq : Eqn (Q [ep.spec, eF.spec]) cn.spec .none := eqn Tryz.f266
theorem gV.eq : Eqn (Q [eg.spec, eb.spec, gL.spec]) gV.spec .none := eqn Tryz.f59
theorem aj.eq : Eqn (Q [bd.spec]) aj.spec .none := eqn Tryz.f147
theorem eR.eq : Eqn (Q [ev.spec]) eR.spec .none := eqn Tryz.f120
theorem bW.eq : Eqn (Q []) bW.spec .none := eqn Tryz.f11
theorem dJ.eq : Eqn (Q []) dJ.spec .none := eqn Tryz.f16
theorem gU.eq : Eqn (Q []) gU.spec .none := eqn Tryz.f229
theorem bT.eq : Eqn (Q []) bT.spec .none := eqn Tryz.f367
end Go.Mach
set_option linter.unusedVariables false
set_option maxRecDepth 100000
namespace Go.Mach
open Go.Proofs
def parse_parser_declares.ann : Ann := (.r (.r (.two (.piece [(.nrm, ⟨[], rg 6 5, [(0, aD), (3, (.box kJ))], [2]⟩)] .none) (.l (.loop ⟨[], [4] ++ rg 11 27, [(0, aD), (3, (.box kJ))], [5]⟩ [(.ret, ⟨[], [4] ++ rg 11 27, [(0, aD), (1, (.box kJ))], [3, 5]⟩)] (.l (.r (.two (.piece [(.nrm, ⟨[], rg 14 9, [(0, aD), (12, (.box kJ))], [11]⟩)] .none) (.r (.l (.piece [(.nrm, ⟨[(36, vb)], rg 29 7, [(0, aD)], []⟩)] .none)))))))))))
theorem parse_parser_declares.eq_ (g_parse_made : type_of% R.aV) (g_parse_named : type_of% R.aX) (g_parse_parser_fine : type_of% R.bD) (g_parse_parser_name : type_of% R.ak) (g_parse_parser_need : type_of% R.aM) (g_parse_parser_take : type_of% R.aE) (G : a8) : Eqn (Q [(aV.g.sp 209 fun x => g_parse_made x.1 x.2), (aX.g.sp 272 fun x => g_parse_named x.1 x.2.1 x.2.2), parse_parser_assign.spec G, (bD.g.sp 274 fun x => g_parse_parser_fine x), (ak.g.sp 242 fun x => g_parse_parser_name x), (aM.g.sp 271 fun x => g_parse_parser_need x.1 x.2), (aE.g.sp 241 fun x => g_parse_parser_take x.1 x.2)]) (parse_parser_declares.g.sp 239 fun x => Res.given (parse_parser_declares.g.i x) (Res.bind (g_parse_made 5 ([] : List (aG aB.den))) fun r1 => Res.given (aV.g.o r1) (Res.bind (α := (aD.den × (aB.den × (List (aG aB.den))))) (Res.bind (g_parse_parser_take x [99, 111, 110, 115, 116]) fun r2 => Res.given (aE.g.o r2) (Res.br r2.1 (Res.bind (g_parse_made 6 ([] : List (aG aB.den))) fun r3 => Res.given (aV.g.o r3) (Res.ok ((r2.2, r3)))) (Res.bind (g_parse_parser_need r2.2 [108, 101, 116]) fun r4 => Res.given (aM.g.o r4) (Res.ok ((r4.2, r1)))))) fun x5 => Res.bind (Res.loop (α := (aD.den × (aB.den × (List (aG aB.den))))) (β := (aD.den × (aB.den × (List (aG aB.den))))) (fun x6 => Res.bind (g_parse_parser_name x6.1) fun r7 => Res.given (ak.g.o r7) (Res.bind (g_parse_named 7 r7.1 ([] : List (aG aB.den))) fun r8 => Res.given (aX.g.o r8) (Res.bind (α := (aD.den × (aB.den × (List (aG aB.den))))) (Res.bind (g_parse_parser_take r7.2 [61]) fun r9 => Res.given (aE.g.o r9) (Res.br r9.1 (Res.bind (G.parse_parser_assign r9.2) fun r10 => Res.given (parse_parser_assign.g.o r10) (Res.bC (decide ((r8.2.length + [(aG.mk (aG.lab r10.1) (aG.kids r10.1))].length) * 144 ≤ 2 ^ 47)) (Res.ok ((r10.2, (r8.1, (r8.2 ++ [(aG.mk (aG.lab r10.1) (aG.kids r10.1))]))))))) (Res.ok ((r9.2, r8))))) fun x11 => Res.bC (decide ((x6.2.2.length + [(aG.mk x11.2.1 x11.2.2)].length) * 144 ≤ 2 ^ 47)) (Res.bind (α := (Bool × aD.den)) (Res.bind (g_parse_parser_fine x11.1) fun r12 => Res.br (!r12) (Res.ok ((true, x11.1))) (Res.bind (g_parse_parser_take x11.1 [44]) fun r13 => Res.given (aE.g.o r13) (Res.ok (((!r13.1), r13.2))))) fun x14 => Res.br x14.1 (Res.ok (.done ((x14.2, (x6.2.1, (x6.2.2 ++ [(aG.mk x11.2.1 x11.2.2)])))))) (Res.ok (.next ((x14.2, (x6.2.1, (x6.2.2 ++ [(aG.mk x11.2.1 x11.2.2)])))))))))) fuel x5) fun x15 => Res.ok (((aG.mk x15.2.1 x15.2.2), x15.1))))) parse_parser_declares.ann := eqn Tryz.f239
theorem parse_parser_declares.eq (G : a8) : Eqn (Q [aV.spec, aX.spec, parse_parser_assign.spec G, bD.spec, ak.spec, aM.spec, aE.spec]) (parse_parser_declares.g.sp 239 fun x => R.parse_parser_declares G x) parse_parser_declares.ann := parse_parser_declares.eq_ R.aV R.aX R.bD R.ak R.aM R.aE G
theorem eval_run_arguments.eq (G : aw) : Eqn (Q [eval_run_expression.spec G]) (eval_run_arguments.g.sp 328 fun x => R.eval_run_arguments G x.1 x.2.1 x.2.2) (.r (.r (.l (.r (.l (.loop ⟨[(9, (false, (.own (.frz aA)))), (16, vi)], [6, 8, 11, 12, 13] ++ rg 17 19, [(2, aH)], [0, 1]⟩ [(.ext 0, ⟨[(9, (false, (.own (.frz aA))))], [6, 8, 11, 12, 13] ++ rg 16 20, [(2, aH)], [0, 1]⟩), (.ret, ⟨[(6, (false, (.own (.frz aA)))), (8, vi)], [9, 11, 12, 13] ++ rg 16 20, [(2, aH), (4, (.box (.frz aA)))], [0, 1]⟩)] .none)))))) := eqn Tryz.f328
theorem parse_parser_head.eq (G : a8) : Eqn (Q [aV.spec, parse_parser_arguments.spec G, parse_parser_head.spec G, parse_parser_member.spec G, al.spec, parse_parser_primary.spec G, aE.spec]) (parse_parser_head.g.sp 403 fun x => R.parse_parser_head G x) (.r (.r (.r (.l (.l (.loop ⟨[(4, vb)], rg 13 7, [(0, aD), (4, (.box (.frz (.rose aB))))], []⟩ [(.ext 0, ⟨[], [4] ++ rg 13 7, [(0, aD), (4, (.box (.frz (.rose aB))))], []⟩)] .none)))))) := eqn Tryz.f403
theorem parse_parser_statement.eq (G : a8) : Eqn (Q [dM.spec, aV.spec, aX.spec, aW.spec, aF.spec, al.spec, parse_parser_simple.spec G, parse_parser_statement.spec G, aE.spec, parse_parser_word.spec G]) (parse_parser_statement.g.sp 244 fun x => R.parse_parser_statement G x) (.r (.r (.l (.l (.l (.piece [(.nrm, ⟨[(6, vb)], rg 7 8, [], []⟩)] .none)))))) := eqn Tryz.f244
theorem ia.eq : Eqn (Q [eg.spec, gF.spec, eK.spec, eb.spec, dE.spec, eu.spec, fK.spec]) ia.spec (.r (.r (.r (.l (.l (.two (.piece [(.nrm, ⟨[(16, vb)], rg 17 22, [], []⟩)] .none) (.r (.two (.piece [(.nrm, ⟨[(40, vb)], rg 41 6, [], []⟩)] .none) (.r (.l (.piece [(.nrm, ⟨[(49, vb)], rg 50 6, [], []⟩)] .none))))))))))) := eqn Tryz.f89
theorem bn.eq : Eqn (Q [aV.spec, parse_parser_item.spec (cE fuel), aF.spec]) bn.spec (.r (.r (.l (.l (.loop ⟨[], rg 5 11, [(0, aD), (3, (.box kJ))], [2]⟩ [(.ext 0, ⟨[], rg 5 11, [(0, aD), (3, (.box kJ))], [2]⟩)] .none))))) := eqn Tryz.f179
theorem fh.eq : Eqn (Q []) fh.spec (.r (.l (.l (.loop ⟨[(0, (false, (.own .w)))], rg 3 17, [], [0]⟩ [(.ext 0, ⟨[(0, (false, (.own .w)))], rg 3 17, [], [0]⟩)] (.l (.l (.piece [(.nrm, ⟨[(14, vb)], rg 3 11, [], []⟩)] .none))))))) := eqn Tryz.f124
theorem fP.eq : Eqn (Q [dF.spec, cf.spec, aS.spec]) fP.spec (.r (.l (.l (.piece [(.nrm, ⟨[(37, vb)], rg 8 29, [], []⟩)] .none)))) := eqn Tryz.f139
theorem ay.eq : Eqn (Q [bd.spec, bz.spec, dh.spec]) ay.spec (.r (.l (.l (.piece [(.nrm, ⟨[(24, vb)], rg 14 10, [], []⟩)] .none)))) := eqn Tryz.f194
theorem dQ.eq : Eqn (Q [bZ.spec, gT.spec, aY.spec, cy.spec, aC.spec]) dQ.spec .none := eqn Tryz.f352
theorem fl.eq : Eqn (Q []) fl.spec (.r (.l (.r (.l (.l (.piece [(.nrm, ⟨[(4, vb)], rg 5 33, [], []⟩)] .none)))))) := eqn Tryz.f337
theorem dm.eq : Eqn (Q [bc.spec, eG.spec, cZ.spec]) dm.spec .none := eqn Tryz.f54
theorem bS.eq : Eqn (Q [eF.spec]) bS.spec .none := eqn Tryz.f236
theorem cF.eq : Eqn (Q [eU.spec, dk.spec]) cF.spec .none := eqn Tryz.f33
theorem bf.eq : Eqn (Q [bd.spec]) bf.spec .none := eqn Tryz.f350
theorem fb.eq : Eqn (Q [(ea.spec fuel)]) fb.spec .none := eqn Tryz.f180
theorem aX.eq : Eqn (Q []) aX.spec .none := eqn Tryz.f272
theorem ep.eq : Eqn (Q []) ep.spec .none := eqn Tryz.f183
theorem iA.eq : Eqn (Q []) iA.spec .none := eqn Tryz.f44
end Go.Mach
