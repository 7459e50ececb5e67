/-
  Proved here: the law renlaw12.EvalFuel returns true for every input of the stated bulk and leaves its arguments as they were; no further condition.
  By an AI agent; no person has read it.
-/
import Derived.Test.YtflklojcjfaenaaGreatDoorPartg
import Derived.KernelRfl
import Derived.Test.YtflklojcjfaenaaGreatDoorProg
set_option linter.all false
set_option linter.deprecated false
set_option linter.unusedVariables false
set_option maxRecDepth 100000
namespace Go.Mach
open Go.Proofs
theorem aa.eq : Eqn (Q [(aJ.spec fuel), aS.spec]) aa.spec (.r (.r (.two (.l (.loop ⟨[(7, vi), (8, vi)], rg 11 12, [(0, (.own (.frz (.list (.int .u16)))))], []⟩ [(.ext 0, ⟨[(7, vi)], [8] ++ rg 11 12, [(0, (.own (.frz (.list (.int .u16)))))], []⟩)] .none)) (.r (.l (.loop ⟨[(6, vi)], [7, 8, 9] ++ rg 28 35, [(0, (.own (.frz (.list (.int .u16)))))], []⟩ [(.ext 2, ⟨[], rg 6 4 ++ rg 28 35, [(0, (.own (.frz (.list (.int .u16)))))], []⟩)] (.r (.l (.r (.l (.l (.loop ⟨[(7, vi), (8, vi)], rg 33 16, [(0, (.own (.frz (.list (.int .u16)))))], []⟩ [(.ext 4, ⟨[(7, vi)], [8] ++ rg 33 16, [(0, (.own (.frz (.list (.int .u16)))))], []⟩)] .none)))))))))))) := eqn Tryz.f418
theorem cM.eq (G : bG) : Eqn (Q [aU.spec, aK.spec G, eu.spec, bV.spec, eH.spec, cI.spec G, aM.spec, aO.spec, bR.spec G, aW.spec G, aG.spec, cV.spec G, bU.spec G]) (cM.g.sp 156 fun x => R.cM G x.1 x.2) (.r (.l (.r (.l (.r (.r (.r (.r (.r (.r (.r (.r (.r (.r (.r (.r (.r (.two (.r (.l (.piece [(.nrm, ⟨[], rg 93 5, [(0, aD)], []⟩)] .none))) (.r (.r (.l (.piece [(.nrm, ⟨[(109, vb)], [110, 111, 112], [], []⟩)] .none)))))))))))))))))))))) := eqn Tryz.f156
theorem fk.eq : Eqn (Q [lW.spec, dB.spec, bP.spec, fi.spec]) fk.spec (.r (.r (.two (.l (.loop ⟨[(4, vi)], [3, 5, 6] ++ rg 19 52, [], []⟩ [(.ext 0, ⟨[], rg 3 4 ++ rg 19 52, [], []⟩), (.ret, ⟨[(3, vi)], [4, 5, 6] ++ rg 19 52, [(0, bH), (1, (.box (.seq .i (.seq .s (.seq (.own .h) (.seq (.frz aI) (.seq (.seq .b (.own .w)) (.seq .i .b))))))))], []⟩)] (.r (.l (.l (.r (.l (.l (.piece [(.nrm, ⟨[(56, vb)], rg 42 14, [], []⟩)] .none))))))))) (.r (.l (.l (.piece [(.nrm, ⟨[(101, vb)], rg 81 20, [], []⟩)] .none))))))) := eqn Tryz.f111
theorem iL.eq : Eqn (Q [jd 160 (.int .u8), jd 67 (.int .u16), pc 112 158 bo, pc 112 159 bd, eQ.spec]) iL.spec (.r (.r (.two (.r (.l (.loop ⟨[(26, vi)], [3, 4] ++ rg 27 16, [(7, (.own (.frz bo)))], []⟩ [(.ext 0, ⟨[], [3, 4] ++ rg 26 17, [(7, (.own (.frz bo)))], []⟩)] .none))) (.l (.r (.l (.loop ⟨[(46, vi)], [5, 6] ++ rg 47 13, [(8, (.own (.frz bd)))], []⟩ [(.ext 2, ⟨[], [5, 6] ++ rg 46 14, [(8, (.own (.frz bd)))], []⟩)] .none))))))) := eqn Tryz.f120
theorem ja.eq : Eqn (Q [dv.spec, bT.spec, aL.spec, aC.spec, iW.spec, bl.spec, fE.spec, ak.spec, fg.spec, fi.spec]) ja.spec (.r (.r (.r (.r (.r (.r (.l (.l (.r (.two (.r (.l (.r (.l (.piece [(.nrm, ⟨[(86, vb)], rg 74 12, [], []⟩)] .none))))) (.two (.piece [(.nrm, ⟨[(93, vb)], rg 94 6, [], []⟩)] .none) (.r (.l (.piece [(.nrm, ⟨[(110, vb)], rg 111 6, [], []⟩)] .none)))))))))))))) := eqn Tryz.f254
theorem aW.eq (G : bG) : Eqn (Q [fV.spec, aU.spec, ax.spec, bI.spec, aj.spec G, aM.spec, aw.spec, bR.spec G, aW.spec G, aG.spec, cM.spec G]) (aW.g.sp 118 fun x => R.aW G x) (.r (.r (.l (.l (.l (.piece [(.nrm, ⟨[(6, vb)], rg 7 8, [], []⟩)] .none)))))) := eqn Tryz.f118
theorem eL.eq (G : ay) : Eqn (Q [dK.spec G, aQ.spec G]) (eL.g.sp 132 fun x => R.eL G x.1 x.2.1 x.2.2) (.r (.r (.two (.piece [(.nrm, ⟨[], [8] ++ rg 16 29, [(2, aF), (9, (.box (.frz aT)))], [6, 7]⟩)] (.r (.l (.piece [(.nrm, ⟨[(33, vb)], rg 26 7, [], []⟩)] .none)))) (.l (.l (.piece [(.nrm, ⟨[(61, vb)], rg 45 16, [], []⟩)] .none)))))) := eqn Tryz.f132
theorem cP.eq (G : ay) : Eqn (Q [aQ.spec G]) (cP.g.sp 36 fun x => R.cP G x.1 x.2.1 x.2.2) (.r (.l (.r (.l (.loop ⟨[(12, vi)], [8, 9] ++ rg 13 12, [(2, aF)], [0, 1]⟩ [(.ext 0, ⟨[], [8, 9] ++ rg 12 13, [(2, aF)], [0, 1]⟩), (.ret, ⟨[], [8, 9] ++ rg 12 13, [(2, aF), (4, (.box (.frz aT)))], [0, 1]⟩)] .none))))) := eqn Tryz.f36
theorem kT.eq : Eqn (Q [fj.spec, fN.spec]) kT.spec (.r (.r (.r (.r (.l (.loop ⟨[(6, (false, (.own (.frz cW))))], [2, 3, 4] ++ rg 7 4 ++ rg 17 41, [(0, (.box (.frz jW)))], []⟩ [(.ret, ⟨[(2, (false, (.own (.frz cW)))), (3, vi), (4, vi)], rg 6 5 ++ rg 17 41, [], [0]⟩)] .none)))))) := eqn Tryz.f41
theorem nJ.eq : Eqn (Q [ec.spec, ep.spec, fG.spec, dd.spec, fB.spec, fh.spec, gz.spec, gF.spec]) nJ.spec (.r (.r (.l (.l (.two (.piece [(.nrm, ⟨[(10, vb)], rg 11 14, [], []⟩)] .none) (.r (.l (.piece [(.nrm, ⟨[(26, vb)], rg 27 6, [], []⟩)] .none)))))))) := eqn Tryz.f321
theorem gJ.eq : Eqn (Q [fe.spec, ic.spec, kn.spec]) gJ.spec (.r (.r (.r (.l (.r (.l (.loop ⟨[(14, vi)], [2, 3, 5] ++ rg 15 8, [], []⟩ [(.ext 0, ⟨[], [2, 3, 5] ++ rg 14 9, [], []⟩), (.ret, ⟨[(2, vi), (3, vi)], [5] ++ rg 14 9, [], []⟩)] .none))))))) := eqn Tryz.f8
theorem dF.eq (G : ay) : Eqn (Q [jM.spec, gu.spec, cd.spec G, dE.spec G, aC.spec, bJ.spec]) (dF.g.sp 257 fun x => R.dF G x.1 x.2.1 x.2.2.1 x.2.2.2) .none := eqn Tryz.f257
theorem dw.eq : Eqn (Q []) dw.spec (.r (.r (.l (.r (.l (.loop ⟨[(13, vi)], [4, 5] ++ rg 14 12, [], []⟩ [(.ext 0, ⟨[], [4, 5] ++ rg 13 13, [], []⟩), (.ret, ⟨[(4, vb)], [5] ++ rg 13 13, [], []⟩)] .none)))))) := eqn Tryz.f193
theorem jx.eq : Eqn (Q [aV.spec]) jx.spec (.r (.l (.l (.r (.r (.two (.piece [(.nrm, ⟨[(11, vb)], rg 12 8, [], []⟩)] .none) (.r (.l (.piece [(.nrm, ⟨[(21, vb)], rg 22 14, [], []⟩)] .none))))))))) := eqn Tryz.f167
theorem cn.eq (G : ay) : Eqn (Q [aE.spec G, ja.spec, cU.spec, iP.spec]) (cn.g.sp 225 fun x => R.cn G x.1 x.2.1 x.2.2) .none := eqn Tryz.f225
theorem lJ.eq : Eqn (Q [sX 406, pP 96, nR.spec, jl.spec, fB.spec]) lJ.spec (.r (.r (.r (.l (.l (.piece [(.nrm, ⟨[(28, vb)], rg 21 7, [], []⟩)] .none)))))) := eqn Tryz.f378
theorem kQ.eq : Eqn (Q [lB.spec, jO.spec, lV.spec, im.spec]) kQ.spec (.r (.l (.l (.l (.piece [(.nrm, ⟨[(8, vb)], rg 9 8, [], []⟩)] .none))))) := eqn Tryz.f323
theorem gy.eq : Eqn (Q [gJ.spec, lj.spec, gp.spec]) gy.spec (.r (.l (.r (.l (.piece [(.nrm, ⟨[(21, vb)], rg 15 6, [], []⟩)] .none))))) := eqn Tryz.f5
theorem fw.eq : Eqn (Q [ec.spec, dA.spec]) fw.spec (.r (.l (.r (.l (.piece [(.nrm, ⟨[(12, vb)], rg 5 7, [], []⟩)] .none))))) := eqn Tryz.f379
theorem fP.eq : Eqn (Q [ea.spec, bn.spec, dz.spec, eE.spec]) fP.spec .none := eqn Tryz.f352
theorem dz.eq : Eqn (Q [cR.spec, eF.spec, ak.spec]) dz.spec .none := eqn Tryz.f383
theorem i7.eq : Eqn (Q [gJ.spec, jb.spec, kA.spec]) i7.spec .none := eqn Tryz.f11
theorem dh.eq : Eqn (Q [eC.spec]) dh.spec .none := eqn Tryz.f394
theorem gf.eq : Eqn (Q [bl.spec, eQ.spec]) gf.spec .none := eqn Tryz.f331
theorem eP.eq : Eqn (Q [i7.spec, gy.spec]) eP.spec .none := eqn Tryz.f6
theorem fQ.eq : Eqn (Q [bJ.spec]) fQ.spec .none := eqn Tryz.f342
theorem ak.eq : Eqn (Q [bc.spec]) ak.spec .none := eqn Tryz.f38
theorem kt.eq : Eqn (Q [jd 123 (.int .u32)]) kt.spec .none := eqn Tryz.f277
theorem fh.eq : Eqn (Q [dA.spec]) fh.spec .none := eqn Tryz.f215
theorem ez.eq : Eqn (Q []) ez.spec .none := eqn Tryz.f82
theorem dd.eq : Eqn (Q []) dd.spec .none := eqn Tryz.f367
theorem kR.eq : Eqn (Q []) kR.spec .none := eqn Tryz.f358
theorem fG.eq : Eqn (Q []) fG.spec .none := eqn Tryz.f264
theorem lT.eq : Eqn (Q []) lT.spec .none := eqn Tryz.f357
end Go.Mach
set_option linter.unusedVariables false
set_option maxRecDepth 100000
namespace Go.Mach
open Go.Proofs
theorem dp.eq (G : ay) : Eqn (Q [bu.spec, cY.spec, dv.spec, cF.spec, fH.spec, cR.spec, aL.spec, cL.spec G, aC.spec, ak.spec]) (dp.g.sp 339 fun x => R.dp G x.1 x.2.1 x.2.2) (.r (.r (.two (.piece [(.nrm, ⟨[], rg 9 6 ++ rg 17 7 ++ rg 28 23 ++ rg 55 7 ++ rg 67 9 ++ rg 81 14 ++ [100, 101, 102], [(5, (.box (.frz iU)))], []⟩), (.ret, ⟨[(7, vi)], rg 9 6 ++ [17] ++ rg 19 9 ++ rg 31 24 ++ rg 60 21 ++ [83, 84] ++ rg 86 14, [(2, aF), (4, (.box (.frz aA)))], [0, 1]⟩)] (.r (.l (.r (.r (.r (.l (.r (.l (.l (.piece [(.nrm, ⟨[(50, vb)], rg 43 7, [], []⟩)] .none))))))))))) (.r (.l (.l (.r (.r (.r (.r (.l (.piece [(.nrm, ⟨[(123, vb)], rg 124 8, [], []⟩)] .none)))))))))))) := eqn Tryz.f339
theorem dI.eq (G : ay) : Eqn (Q [gu.spec, cd.spec G, cp.spec G, aX.spec, aL.spec, aC.spec, bJ.spec, dW.spec, ak.spec, ae.spec]) (dI.g.sp 230 fun x => R.dI G x.1 x.2.1 x.2.2) (.r (.r (.r (.r (.two (.l (.piece [(.nrm, ⟨[(50, vb)], rg 43 7, [], []⟩)] .none)) (.r (.two (.piece [(.nrm, ⟨[(10, vi)], [11, 12] ++ rg 55 22 ++ [81, 82], [], []⟩), (.ret, ⟨[(7, vi)], [11, 12] ++ rg 55 26, [(2, aF), (4, (.box (.frz aA)))], [0, 1]⟩)] .none) (.r (.r (.r (.l (.l (.piece [(.nrm, ⟨[(109, vb)], rg 103 6, [], []⟩)] .none))))))))))))) := eqn Tryz.f230
theorem dN.eq (G : ay) : Eqn (Q [cY.spec, cc.spec, aE.spec G, fF.spec, cU.spec, iK.spec, kM.spec, ae.spec]) (dN.g.sp 223 fun x => R.dN G x.1 x.2.1 x.2.2.1 x.2.2.2) (.r (.r (.r (.r (.l (.piece [(.nrm, ⟨[(13, vi)], [14] ++ rg 37 14 ++ rg 52 22, [(2, aF), (5, (.box (.frz aA)))], [0, 1]⟩), (.ret, ⟨[(9, vi)], [14] ++ rg 37 15, [(2, aF), (4, (.box (.seq .i (.seq (.frz aI) (.seq (.seq .b (.own .w)) (.seq (.own .h) .i))))))], [0, 1]⟩)] .none)))))) := eqn Tryz.f223
theorem iP.eq : Eqn (Q [cQ.spec, kW.spec, iM.spec, bT.spec, lM.spec, lR.spec, jE.spec, kD.spec]) iP.spec (.r (.r (.l (.r (.l (.r (.two (.l (.l (.piece [(.nrm, ⟨[(24, vb)], rg 17 7, [], []⟩)] .none))) (.two (.piece [(.nrm, ⟨[(36, vb)], rg 37 4, [], []⟩)] .none) (.r (.two (.piece [(.nrm, ⟨[(47, vb)], rg 48 6, [], []⟩)] .none) (.r (.r (.r (.r (.r (.r (.r (.r (.r (.r (.r (.r (.r (.l (.piece [(.nrm, ⟨[(101, vb)], [102, 103], [], []⟩)] .none))))))))))))))))))))))))) := eqn Tryz.f255
theorem gW.eq : Eqn (Q [jd 67 (.int .u16), bc.spec, aZ.spec, fg.spec]) gW.spec (.r (.r (.r (.l (.r (.l (.loop ⟨[(5, (false, (.own (.frz (.list (.int .u16)))))), (6, (false, (.own (.frz (.list (.int .u16)))))), (25, vi)], rg 8 4 ++ rg 26 21, [], []⟩ [(.ext 0, ⟨[(5, (false, (.own (.frz (.list (.int .u16)))))), (6, (false, (.own (.frz (.list (.int .u16))))))], rg 8 4 ++ rg 25 22, [], []⟩)] .none))))))) := eqn Tryz.f377
theorem aq.eq (G : bG) : Eqn (Q [jc.spec, ax.spec, aq.spec G, aM.spec, bO.spec G]) (aq.g.sp 240 fun x => R.aq G x.1 x.2) (.r (.r (.r (.l (.l (.loop ⟨[], [6] ++ rg 15 23, [(0, aD), (3, (.box (.frz (.rose aB))))], []⟩ [(.ext 0, ⟨[], [6] ++ rg 15 23, [(0, aD), (3, (.box (.frz (.rose aB))))], []⟩)] .none)))))) := eqn Tryz.f240
theorem fA.eq : Eqn (Q [fV.spec, bI.spec, aw.spec]) fA.spec (.r (.r (.r (.l (.piece [(.nrm, ⟨[(3, vi)], [2] ++ rg 7 19, [], []⟩), (.ret, ⟨[(2, vb)], [3] ++ rg 7 19, [], []⟩)] (.r (.l (.l (.loop ⟨[(3, vi)], [2] ++ rg 12 14, [], []⟩ [(.ext 0, ⟨[(3, vi)], [2] ++ rg 12 14, [], []⟩), (.ret, ⟨[(2, vb)], [3] ++ rg 12 14, [], []⟩)] .none))))))))) := eqn Tryz.f184
theorem bz.eq (G : bG) : Eqn (Q [ax.spec, aq.spec G, aG.spec]) (bz.g.sp 241 fun x => R.bz G x.1 x.2) (.r (.l (.l (.loop ⟨[], rg 5 7, [(0, aD), (1, (.box (.frz (.rose aB))))], []⟩ [(.ext 0, ⟨[], rg 5 7, [(0, aD), (1, (.box (.frz (.rose aB))))], []⟩)] .none)))) := eqn Tryz.f241
theorem fO.eq : Eqn (Q [cY.spec, dv.spec, aX.spec, aC.spec]) fO.spec (.r (.r (.l (.piece [(.nrm, ⟨[], [9, 10] ++ rg 12 10 ++ [27, 28], [(5, (.box (.frz aA)))], []⟩), (.ret, ⟨[(7, vi)], [9, 10] ++ rg 12 15, [(2, aF), (4, (.box (.frz aA)))], [0, 1]⟩)] .none)))) := eqn Tryz.f334
theorem ed.eq : Eqn (Q [ef.spec, dB.spec, cS.spec, ch.spec, ev.spec, ae.spec, iN.spec]) ed.spec (.r (.r (.r (.l (.l (.l (.piece [(.nrm, ⟨[(12, vb)], rg 13 7, [], []⟩)] .none))))))) := eqn Tryz.f108
theorem bD.eq : Eqn (Q [iw.spec]) bD.spec (.r (.l (.r (.l (.loop ⟨[(8, vi)], [4, 5] ++ rg 9 10, [], []⟩ [(.ext 0, ⟨[], [4, 5] ++ rg 8 11, [], []⟩), (.ret, ⟨[(4, vi)], [5] ++ rg 8 11, [], []⟩)] .none))))) := eqn Tryz.f212
theorem fq.eq : Eqn (Q [kU.spec, eU.spec, gG.spec, cU.spec, aC.spec, fw.spec]) fq.spec (.r (.l (.r (.l (.l (.r (.l (.piece [(.nrm, ⟨[(23, vb)], rg 15 8, [], []⟩)] .none)))))))) := eqn Tryz.f333
theorem eW.eq : Eqn (Q []) eW.spec (.r (.r (.l (.r (.l (.loop ⟨[(13, vi)], [4, 5] ++ rg 14 12, [], []⟩ [(.ext 0, ⟨[], [4, 5] ++ rg 13 13, [], []⟩), (.ret, ⟨[(4, vb)], [5] ++ rg 13 13, [], []⟩)] .none)))))) := eqn Tryz.f375
theorem jy.eq : Eqn (Q [jX.spec]) jy.spec (.r (.l (.r (.l (.loop ⟨[(7, vi)], [2, 4] ++ rg 8 7, [], []⟩ [(.ext 0, ⟨[], [2, 4] ++ rg 7 8, [], []⟩), (.ret, ⟨[(2, vb)], [4] ++ rg 7 8, [], []⟩)] .none))))) := eqn Tryz.f422
theorem ae.eq : Eqn (Q []) ae.spec (.r (.r (.l (.r (.l (.loop ⟨[(3, (false, (.own .h))), (7, vi)], [4] ++ rg 8 10, [], []⟩ [(.ext 0, ⟨[(3, (false, (.own .h)))], [4] ++ rg 7 11, [], []⟩)] .none)))))) := eqn Tryz.f39
theorem hB.eq : Eqn (Q [eU.spec, gG.spec, cu.spec, bu.spec, gU.spec, gR.spec, ea.spec, fw.spec]) hB.spec .none := eqn Tryz.f389
theorem bu.eq : Eqn (Q [cQ.spec, iN.spec]) bu.spec (.r (.r (.l (.r (.l (.r (.r (.l (.piece [(.nrm, ⟨[(13, vb)], [14, 15], [], []⟩)] .none))))))))) := eqn Tryz.f273
theorem bC.eq : Eqn (Q [bD.spec]) bC.spec .none := eqn Tryz.f176
theorem kU.eq : Eqn (Q [eT.spec]) kU.spec (.r (.r (.l (.piece [(.nrm, ⟨[(3, (false, (.frz (.int .u64))))], rg 6 4, [], []⟩)] .none)))) := eqn Tryz.f280
theorem jJ.eq : Eqn (Q [cu.spec, db.spec, iS.spec, aV.spec]) jJ.spec .none := eqn Tryz.f244
theorem gG.eq : Eqn (Q [kU.spec, cQ.spec, kt.spec, jj.spec]) gG.spec .none := eqn Tryz.f380
theorem db.eq : Eqn (Q [dq.spec, cT.spec]) db.spec .none := eqn Tryz.f272
theorem gV.eq : Eqn (Q [fb.spec, cT.spec]) gV.spec .none := eqn Tryz.f345
theorem dL.eq : Eqn (Q [dY.spec]) dL.spec .none := eqn Tryz.f337
theorem lF.eq : Eqn (Q [eT.spec, di.spec, gS.spec]) lF.spec .none := eqn Tryz.f274
theorem fS.eq : Eqn (Q [iY.spec]) fS.spec .none := eqn Tryz.f162
theorem dG.eq : Eqn (Q [fg.spec]) dG.spec .none := eqn Tryz.f405
theorem kq.eq : Eqn (Q [pP 96, ec.spec]) kq.spec .none := eqn Tryz.f65
theorem bw.eq : Eqn (Q []) bw.spec .none := eqn Tryz.f150
theorem mL.eq : Eqn (Q [lB.spec]) mL.spec .none := eqn Tryz.f376
theorem jA.eq : Eqn (Q []) jA.spec .none := eqn Tryz.f391
theorem j7.eq : Eqn (Q []) j7.spec .none := eqn Tryz.f434
theorem jv.eq : Eqn (Q []) jv.spec .none := eqn Tryz.f303
theorem gF.eq : Eqn (Q []) gF.spec .none := eqn Tryz.f369
end Go.Mach
set_option linter.unusedVariables false
set_option maxRecDepth 100000
namespace Go.Mach
open Go.Proofs
theorem jw.eq : Eqn (Q [km.spec, eT.spec, iD.spec]) jw.spec (.r (.two (.piece [(.nrm, ⟨[(4, vs), (5, vb)], rg 11 9, [], []⟩)] .none) (.two (.piece [(.nrm, ⟨[(4, vs)], [20, 21, 22], [], []⟩)] .none) (.two (.l (.piece [(.nrm, ⟨[(29, vb)], rg 23 6, [], []⟩)] .none)) (.r (.l (.r (.l (.loop ⟨[(6, (false, (.own .w))), (33, vi)], [3] ++ rg 7 4 ++ rg 34 38, [], []⟩ [(.ext 0, ⟨[(6, (false, (.own .w)))], [3] ++ rg 7 4 ++ rg 33 39, [], []⟩), (.ret, ⟨[(3, vi)], rg 6 5 ++ rg 33 39, [(0, (.box (.seq .b (.own .w))))], []⟩)] (.r (.r (.l (.l (.r (.r (.l (.r (.l (.loop ⟨[(8, (false, (.frz (.int .u64)))), (43, vi)], [9, 10] ++ rg 44 17, [(1, (.own .w))], []⟩ [(.ext 2, ⟨[(8, (false, (.frz (.int .u64))))], [9, 10] ++ rg 43 18, [(1, (.own .w))], []⟩)] .none))))))))))))))))))) := eqn Tryz.f172
theorem bY.eq (G : bG) : Eqn (Q [aU.spec, ax.spec, aK.spec G, cX.spec, bA.spec G, bk.spec G, bF.spec, aN.spec, aM.spec, bf.spec G, aw.spec, aO.spec]) (bY.g.sp 395 fun x => R.bY G x) (.r (.r (.r (.r (.r (.two (.r (.l (.r (.r (.r (.r (.r (.r (.r (.r (.r (.r (.r (.r (.r (.l (.r (.l (.piece [(.nrm, ⟨[(4, vs)], rg 71 6, [(0, aD)], []⟩)] .none))))))))))))))))))) (.r (.l (.l (.piece [(.nrm, ⟨[(99, vb)], rg 94 5, [], []⟩)] .none)))))))))) := eqn Tryz.f395
theorem jE.eq : Eqn (Q [dC.spec, bT.spec, kQ.spec, ld.spec]) jE.spec (.r (.two (.l (.two (.piece [(.nrm, ⟨[(15, vb)], rg 16 8, [], []⟩)] .none) (.r (.two (.piece [(.nrm, ⟨[(25, vb)], rg 26 8, [], []⟩)] .none) (.two (.l (.piece [(.nrm, ⟨[], [34, 35, 36], [(0, (.box (.frz aA))), (1, (.box (.frz aA)))], []⟩)] .none)) (.l (.piece [(.nrm, ⟨[(45, vb)], rg 46 18, [], []⟩)] .none))))))) (.r (.r (.r (.r (.l (.piece [(.nrm, ⟨[], [83, 84, 85], [(3, (.box (.frz aA))), (4, (.box (.frz aA)))], []⟩)] .none)))))))) := eqn Tryz.f292
theorem kW.eq : Eqn (Q [kl.spec, cQ.spec, bu.spec, iM.spec, iA.spec, kV.spec, jO.spec]) kW.spec (.r (.r (.two (.l (.r (.r (.l (.piece [(.nrm, ⟨[(21, vb)], rg 22 6, [], []⟩)] .none))))) (.r (.two (.piece [(.nrm, ⟨[], rg 38 7, [(0, (.box (.frz aA))), (1, (.box (.frz aA)))], []⟩)] .none) (.l (.l (.r (.r (.two (.piece [(.nrm, ⟨[(54, vb)], rg 55 8, [], []⟩)] .none) (.r (.l (.piece [(.nrm, ⟨[(68, vb)], rg 69 8, [], []⟩)] .none))))))))))))) := eqn Tryz.f294
theorem jI.eq : Eqn (Q [kX.spec, kN.spec, jR.spec, iD.spec]) jI.spec (.r (.r (.r (.l (.r (.l (.loop ⟨[(7, (false, (.own .w))), (8, vi)], [9] ++ rg 16 33, [(2, (.own .w))], []⟩ [(.ext 0, ⟨[(7, (false, (.own .w)))], [8, 9] ++ rg 16 33, [(2, (.own .w))], []⟩)] (.r (.l (.l (.r (.l (.loop ⟨[(7, (false, (.own .w))), (9, vi)], rg 20 29, [(2, (.own .w))], [3]⟩ [(.ext 2, ⟨[(7, (false, (.own .w)))], [9] ++ rg 20 29, [(2, (.own .w))], [3]⟩)] .none))))))))))))) := eqn Tryz.f402
theorem lv.eq : Eqn (Q [da.spec, gv.spec, gI.spec, i6.spec, ia.spec]) lv.spec (.r (.two (.l (.piece [(.nrm, ⟨[(26, vb)], rg 4 22, [], []⟩)] .none)) (.l (.r (.l (.loop ⟨[(30, vi)], [2, 3] ++ rg 31 29, [], []⟩ [(.ext 0, ⟨[], [2, 3] ++ rg 30 30, [], []⟩), (.ret, ⟨[(2, vb)], [3] ++ rg 30 30, [], []⟩)] (.r (.r (.l (.l (.r (.l (.piece [(.nrm, ⟨[(58, vb)], rg 33 25, [], []⟩)] .none))))))))))))) := eqn Tryz.f14
theorem dM.eq (G : ay) : Eqn (Q [gm.spec, cz.spec, cP.spec G, cE.spec]) (dM.g.sp 126 fun x => R.dM G x.1 x.2.1 x.2.2) (.r (.l (.piece [(.nrm, ⟨[], rg 7 21 ++ rg 30 11, [(2, aF), (3, (.box (.frz aP)))], [0, 1]⟩), (.ret, ⟨[], rg 7 37, [(2, aF), (4, (.box (.frz aT)))], [0, 1, 3]⟩)] .none))) := eqn Tryz.f126
def iB.ann : Ann := (.r (.l (.r (.l (.two (.piece [(.nrm, ⟨[(6, vb)], rg 7 5, [], []⟩)] .none) (.r (.l (.piece [(.nrm, ⟨[(15, vb)], rg 16 4, [], []⟩)] .none))))))))
theorem iB.eq_ (g_lex_Name : type_of% R.ku) (g_lex_Run : type_of% R.lr) (g_slices_Contains_string : type_of% R.aV) : Eqn ({ P := Tryz.prog, specs := [(ku.g.sp 76 fun x => g_lex_Name x), (lr.g.sp 77 fun x => g_lex_Run x), (aV.g.sp 51 fun x => g_slices_Contains_string x.1 x.2)], ety := pL Tryz.prog owned, sE := [y3 78 (pB.env Tryz.prog) Tryz.f78 .none] } : Env) (iB.g.sp 46 fun x => Res.given (iB.g.i x) (Res.bind (α := Bool) (Res.br (x.1 == 7) (Res.ok ((x.1 == 7))) (Res.br (x.1 == 18) (Res.ok ((x.1 == 18))) (Res.br (x.1 == 19) (Res.ok ((x.1 == 19))) (Res.br (x.1 == 20) (Res.ok ((x.1 == 20))) (Res.ok ((x.1 == 33))))))) fun x1 => Res.br x1 (Res.bind (g_lex_Name x.2.1) fun r2 => Res.ok (r2)) (Res.bind (α := Bool) (Res.br (x.1 == 12) (Res.ok ((x.1 == 12))) (Res.br (x.1 == 13) (Res.ok ((x.1 == 13))) (Res.br (x.1 == 17) (Res.ok ((x.1 == 17))) (Res.ok ((x.1 == 41)))))) fun x3 => Res.br x3 (Res.br (x.2.1 == ([] : List UInt8)) (Res.ok (true)) (Res.bind (g_lex_Name x.2.1) fun r4 => Res.ok (r4))) (Res.br (x.1 == 52) (Res.bind (g_lex_Run x.2.1) fun r5 => Res.ok (r5)) (Res.br (x.1 == 43) (Res.bind (g_slices_Contains_string [[45], [43], [33], [126], [116, 121, 112, 101, 111, 102], [118, 111, 105, 100]] x.2.1) fun r6 => Res.ok (r6)) (Res.br (x.1 == 44) (Res.br (x.1 == 44) (Res.bind (g_slices_Contains_string [[43, 43], [45, 45]] x.2.1) fun r7 => Res.ok (r7)) (Res.br (x.1 == 46) (Res.bind (g_slices_Contains_string [[43], [45], [42], [47], [37], [38], [124], [94], [60, 60], [62, 62], [62, 62, 62], [60], [62], [60, 61], [62, 61], [61, 61], [33, 61], [61, 61, 61], [33, 61, 61], [105, 110]] x.2.1) fun r8 => Res.ok (r8)) (Res.br (x.1 == 47) (Res.bind (g_slices_Contains_string [[38, 38], [124, 124], [63, 63]] x.2.1) fun r9 => Res.ok (r9)) (Res.br (x.1 == 49) (Res.bind (g_slices_Contains_string [[61], [43, 61], [45, 61], [42, 61], [47, 61], [37, 61], [38, 61], [124, 61], [94, 61], [60, 60, 61], [62, 62, 61], [62, 62, 62, 61]] x.2.1) fun r10 => Res.ok (r10)) (Res.ok ((x.2.1 == ([] : List UInt8)))))))) (Res.br (x.1 == 45) (Res.bind (g_slices_Contains_string [[43, 43], [45, 45]] x.2.1) fun r11 => Res.ok (r11)) (Res.br (x.1 == 46) (Res.bind (g_slices_Contains_string [[43], [45], [42], [47], [37], [38], [124], [94], [60, 60], [62, 62], [62, 62, 62], [60], [62], [60, 61], [62, 61], [61, 61], [33, 61], [61, 61, 61], [33, 61, 61], [105, 110]] x.2.1) fun r12 => Res.ok (r12)) (Res.br (x.1 == 47) (Res.bind (g_slices_Contains_string [[38, 38], [124, 124], [63, 63]] x.2.1) fun r13 => Res.ok (r13)) (Res.br (x.1 == 49) (Res.bind (g_slices_Contains_string [[61], [43, 61], [45, 61], [42, 61], [47, 61], [37, 61], [38, 61], [124, 61], [94, 61], [60, 60, 61], [62, 62, 61], [62, 62, 62, 61]] x.2.1) fun r14 => Res.ok (r14)) (Res.ok ((x.2.1 == ([] : List UInt8)))))))))))))) iB.ann := eqn Tryz.f46
theorem iB.eq : Eqn ({ P := Tryz.prog, specs := [ku.spec, lr.spec, aV.spec], ety := pL Tryz.prog owned, sE := [y3 78 (pB.env Tryz.prog) Tryz.f78 .none] } : Env) iB.spec iB.ann := iB.eq_ R.ku R.lr R.aV
theorem fD.eq : Eqn (Q [bc.spec, eK.spec, eQ.spec]) fD.spec (.r (.l (.r (.l (.loop ⟨[(1, vi), (16, vi)], rg 7 4 ++ rg 17 37, [], []⟩ [(.ext 0, ⟨[], [1] ++ rg 7 4 ++ rg 16 38, [], []⟩), (.ret, ⟨[(7, vi), (8, vb)], [1, 9, 10] ++ rg 16 38, [(2, (.box (.frz bd)))], []⟩)] .none))))) := eqn Tryz.f242
theorem ey.eq : Eqn (Q [jh.spec, bn.spec, cR.spec, dz.spec, dZ.spec, eE.spec, ak.spec]) ey.spec (.r (.r (.r (.r (.r (.r (.r (.l (.piece [(.nrm, ⟨[(17, (false, (.frz (.int .u64))))], rg 84 10, [], []⟩)] .none))))))))) := eqn Tryz.f390
theorem bE.eq : Eqn (Q [iv.spec]) bE.spec (.r (.l (.r (.l (.loop ⟨[(8, vi)], [4, 5] ++ rg 9 10, [], []⟩ [(.ext 0, ⟨[], [4, 5] ++ rg 8 11, [], []⟩), (.ret, ⟨[(4, vi)], [5] ++ rg 8 11, [], []⟩)] .none))))) := eqn Tryz.f85
theorem lM.eq : Eqn (Q [cu.spec, mB.spec, ff.spec]) lM.spec (.r (.r (.two (.l (.r (.r (.l (.piece [(.nrm, ⟨[(24, vb)], rg 25 7, [], []⟩)] .none))))) (.r (.l (.piece [(.nrm, ⟨[(11, vi)], rg 38 13, [], []⟩)] .none)))))) := eqn Tryz.f291
theorem iD.eq : Eqn (Q []) iD.spec (.r (.l (.l (.loop ⟨[(0, (false, (.own .w)))], rg 3 17, [], [0]⟩ [(.ext 0, ⟨[(0, (false, (.own .w)))], rg 3 17, [], [0]⟩)] (.l (.l (.piece [(.nrm, ⟨[(14, vb)], rg 3 11, [], []⟩)] .none))))))) := eqn Tryz.f98
theorem bK.eq (G : bG) : Eqn (Q [aU.spec, aK.spec G, aN.spec, aw.spec]) (bK.g.sp 220 fun x => R.bK G x.1 x.2) .none := eqn Tryz.f220
theorem mA.eq : Eqn (Q [gx.spec]) mA.spec (.r (.l (.l (.r (.r (.two (.piece [(.nrm, ⟨[(8, vb)], rg 9 6, [], []⟩)] .none) (.r (.l (.piece [(.nrm, ⟨[(18, vb)], rg 19 6, [], []⟩)] .none))))))))) := eqn Tryz.f218
theorem jn.eq : Eqn (Q []) jn.spec (.r (.l (.r (.l (.two (.piece [(.nrm, ⟨[(4, vb)], rg 5 22, [], []⟩)] .none) (.r (.l (.piece [(.nrm, ⟨[(27, vb)], rg 28 27, [], []⟩)] .none)))))))) := eqn Tryz.f119
theorem aZ.eq : Eqn (Q [aa.spec]) aZ.spec .none := eqn Tryz.f404
theorem iI.eq : Eqn (Q [cY.spec, cF.spec, aL.spec, ae.spec, fg.spec, iY.spec]) iI.spec .none := eqn Tryz.f304
theorem ga.eq : Eqn (Q []) ga.spec (.r (.l (.r (.l (.r (.r (.l (.piece [(.nrm, ⟨[(7, vb)], [8, 9], [], []⟩)] .none)))))))) := eqn Tryz.f78
theorem lN.eq : Eqn (Q [fw.spec]) lN.spec (.r (.l (.r (.l (.piece [(.nrm, ⟨[(13, vb)], rg 6 7, [], []⟩)] .none))))) := eqn Tryz.f340
theorem aN.eq : Eqn (Q [aO.spec, aG.spec]) aN.spec .none := eqn Tryz.f147
theorem eu.eq : Eqn (Q [fV.spec, aM.spec]) eu.spec .none := eqn Tryz.f191
theorem aV.eq : Eqn (Q [cT.spec]) aV.spec .none := eqn Tryz.f51
theorem bP.eq : Eqn (Q [gx.spec]) bP.spec .none := eqn Tryz.f110
theorem aG.eq : Eqn (Q [aw.spec]) aG.spec .none := eqn Tryz.f115
theorem bl.eq : Eqn (Q [bc.spec]) bl.spec .none := eqn Tryz.f288
theorem gm.eq : Eqn (Q [eb.spec]) gm.spec .none := eqn Tryz.f165
theorem j8.eq : Eqn (Q [(jC.spec fuel)]) j8.spec .none := eqn Tryz.f43
theorem mb.eq : Eqn (Q [gE.spec]) mb.spec .none := eqn Tryz.f81
theorem gE.eq : Eqn (Q []) gE.spec .none := eqn Tryz.f80
theorem ax.eq : Eqn (Q []) ax.spec .none := eqn Tryz.f148
theorem jX.eq : Eqn (Q []) jX.spec .none := eqn Tryz.f435
theorem ep.eq : Eqn (Q []) ep.spec .none := eqn Tryz.f313
theorem cA.eq : Eqn (Q []) cA.spec .none := eqn Tryz.f297
end Go.Mach
set_option linter.unusedVariables false
set_option maxRecDepth 100000
namespace Go.Mach
open Go.Proofs
theorem bg.eq (G : bG) : Eqn (Q [ax.spec, bz.spec G, aq.spec G, aw.spec, aO.spec, aG.spec]) (bg.g.sp 219 fun x => R.bg G x) (.r (.r (.two (.r (.l (.two (.l (.loop ⟨[], rg 8 7, [(0, aD), (3, (.box (.frz (.rose aB))))], []⟩ [(.ext 0, ⟨[], rg 8 7, [(0, aD), (3, (.box (.frz (.rose aB))))], []⟩)] .none)) (.l (.piece [(.nrm, ⟨[], rg 15 8, [(0, aD)], []⟩)] (.l (.piece [(.nrm, ⟨[(20, vb)], rg 15 5, [], []⟩)] .none))))))) (.r (.l (.l (.loop ⟨[], rg 27 9, [(0, aD), (3, (.box (.frz (.rose aB))))], []⟩ [(.ext 2, ⟨[], rg 27 9, [(0, aD), (3, (.box (.frz (.rose aB))))], []⟩)] .none))))))) := eqn Tryz.f219
theorem eb.eq : Eqn (Q [gd.spec, il.spec, fC.spec]) eb.spec (.r (.r (.r (.l (.l (.two (.piece [(.nrm, ⟨[(17, vb)], rg 18 8, [], []⟩)] .none) (.two (.r (.l (.loop ⟨[(6, (false, (.own .s))), (29, vi)], [8, 9] ++ rg 30 27, [], []⟩ [(.ext 1, ⟨[(6, (false, (.own .s)))], [8, 9] ++ rg 29 28, [], []⟩)] .none))) (.two (.piece [(.nrm, ⟨[(57, vb)], rg 58 15, [], []⟩)] .none) (.r (.two (.piece [(.nrm, ⟨[(79, vb)], rg 80 8, [], []⟩)] .none) (.r (.r (.l (.r (.l (.loop ⟨[(6, (false, (.own .s))), (98, vi)], [11] ++ rg 99 20, [], []⟩ [(.ext 4, ⟨[(6, (false, (.own .s)))], [11] ++ rg 98 21, [], []⟩)] .none)))))))))))))))) := eqn Tryz.f28
theorem jB.eq : Eqn (Q [dv.spec, jv.spec, aL.spec, jD.spec, aC.spec, bl.spec, dW.spec, ak.spec, cj.spec, ae.spec, fg.spec, iY.spec]) jB.spec (.r (.r (.r (.r (.r (.r (.r (.l (.piece [(.nrm, ⟨[], [15, 16, 64, 65] ++ rg 70 5 ++ rg 79 14 ++ rg 97 14, [], []⟩), (.ret, ⟨[(7, vi)], [15, 16] ++ rg 64 66, [(2, aF), (5, (.box (.frz aA)))], [0, 1]⟩)] (.r (.l (.r (.r (.r (.l (.l (.piece [(.nrm, ⟨[(92, vb)], rg 81 11, [], []⟩)] .none))))))))))))))))) := eqn Tryz.f284
theorem bk.eq (G : bG) : Eqn (Q [aK.spec G, bw.spec, aN.spec, aG.spec]) (bk.g.sp 396 fun x => R.bk G x.1 x.2) (.r (.r (.r (.l (.loop ⟨[(5, (false, (.own (.frz (.rose aB)))))], [4] ++ rg 10 16, [(0, aD)], []⟩ [(.ret, ⟨[(4, (false, (.own (.frz (.rose aB)))))], [5] ++ rg 10 16, [(0, aD)], []⟩)] (.l (.r (.l (.l (.piece [(.nrm, ⟨[(22, vb)], rg 15 7, [(0, aD)], []⟩)] .none)))))))))) := eqn Tryz.f396
theorem dQ.eq (G : ay) : Eqn (Q [aE.spec G, cE.spec, aQ.spec G, gP.spec, ba.spec]) (dQ.g.sp 168 fun x => R.dQ G x.1 x.2.1 x.2.2) (.r (.r (.l (.r (.l (.r (.r (.two (.piece [(.nrm, ⟨[(29, vb)], [30, 31], [], []⟩)] .none) (.l (.r (.r (.r (.l (.r (.l (.loop ⟨[(49, vi)], [12] ++ rg 50 23, [(9, eY)], [8]⟩ [(.ext 1, ⟨[], [12] ++ rg 49 24, [(9, eY)], [8]⟩)] .none)))))))))))))))) := eqn Tryz.f168
theorem kn.eq : Eqn (Q [da.spec, gv.spec, gI.spec, i6.spec, ia.spec]) kn.spec (.r (.two (.l (.piece [(.nrm, ⟨[(26, vb)], rg 4 22, [], []⟩)] .none)) (.l (.r (.l (.loop ⟨[(30, vi)], [2, 3] ++ rg 31 29, [], []⟩ [(.ext 0, ⟨[], [2, 3] ++ rg 30 30, [], []⟩), (.ret, ⟨[(2, vb)], [3] ++ rg 30 30, [], []⟩)] (.r (.r (.l (.l (.r (.l (.piece [(.nrm, ⟨[(58, vb)], rg 33 25, [], []⟩)] .none))))))))))))) := eqn Tryz.f14
theorem jV.eq : Eqn (Q [jX.spec]) jV.spec (.r (.r (.l (.r (.l (.loop ⟨[(3, vb), (8, vi)], [2, 5] ++ rg 9 44, [], []⟩ [(.ext 0, ⟨[(3, vb)], [2, 5] ++ rg 8 45, [], []⟩), (.ret, ⟨[(2, vb)], [3, 5] ++ rg 8 45, [], []⟩)] (.r (.r (.l (.l (.r (.two (.piece [(.nrm, ⟨[(3, vb)], rg 12 5, [], []⟩)] .none) (.l (.piece [(.nrm, ⟨[(51, vb)], rg 17 34, [], []⟩)] .none)))))))))))))) := eqn Tryz.f423
theorem af.eq : Eqn (Q [aR.spec]) af.spec (.r (.r (.l (.l (.loop ⟨[(10, vi), (11, vi)], rg 18 32, [(0, (.own (.frz (.list (.int .u16)))))], []⟩ [(.ext 0, ⟨[(10, vi)], [11] ++ rg 18 32, [(0, (.own (.frz (.list (.int .u16)))))], []⟩)] .none))))) := eqn Tryz.f438
theorem dn.eq (G : ay) : Eqn (Q [dC.spec, gT.spec, bt.spec G, aC.spec, fa.spec, lQ.spec]) (dn.g.sp 224 fun x => R.dn G x.1 x.2.1 x.2.2) (.r (.r (.r (.r (.r (.r (.r (.l (.piece [(.nrm, ⟨[(13, vi)], [53, 54, 55], [], []⟩)] .none))))))))) := eqn Tryz.f224
theorem eA.eq : Eqn (Q [aU.spec, bj.spec (ca fuel), aM.spec]) eA.spec (.r (.r (.l (.l (.loop ⟨[], rg 5 11, [(0, aD), (3, (.box mS))], [2]⟩ [(.ext 0, ⟨[], rg 5 11, [(0, aD), (3, (.box mS))], [2]⟩)] .none))))) := eqn Tryz.f42
theorem fi.eq : Eqn (Q []) fi.spec (.r (.r (.l (.r (.l (.loop ⟨[(4, (false, (.own .y))), (9, vi)], [2, 3, 6] ++ rg 10 11, [], []⟩ [(.ext 0, ⟨[(4, (false, (.own .y)))], [2, 3, 6] ++ rg 9 12, [], []⟩), (.ret, ⟨[(2, vs), (3, vb)], [4, 6] ++ rg 9 12, [], []⟩)] .none)))))) := eqn Tryz.f145
theorem kK.eq : Eqn (Q []) kK.spec (.r (.r (.l (.r (.l (.loop ⟨[(4, vi), (9, vi)], [2, 3, 6] ++ rg 10 12, [], []⟩ [(.ext 0, ⟨[(4, vi)], [2, 3, 6] ++ rg 9 13, [], []⟩), (.ret, ⟨[(2, vi), (3, vb)], [4, 6] ++ rg 9 13, [], []⟩)] .none)))))) := eqn Tryz.f179
theorem eH.eq : Eqn (Q [aU.spec, bV.spec, bF.spec, aM.spec]) eH.spec (.r (.r (.r (.l (.r (.l (.piece [(.nrm, ⟨[(25, vb)], rg 18 7, [], []⟩)] .none))))))) := eqn Tryz.f190
theorem kX.eq : Eqn (Q [lT.spec]) kX.spec (.r (.r (.l (.r (.l (.loop ⟨[(5, vi)], [4] ++ rg 20 25, [], []⟩ [(.ext 0, ⟨[], [4, 5] ++ rg 20 25, [], []⟩), (.ret, ⟨[(4, vi)], [5] ++ rg 20 25, [], []⟩)] .none)))))) := eqn Tryz.f311
theorem je.eq : Eqn (Q [fC.spec, eb.spec, bB.spec]) je.spec (.r (.l (.l (.piece [(.nrm, ⟨[(37, vb)], rg 8 29, [], []⟩)] .none)))) := eqn Tryz.f29
theorem eX.eq : Eqn ({ P := Tryz.prog, specs := [], ety := pL Tryz.prog owned, sE := [y3 38 (pS.env Tryz.prog) Tryz.f38 .none] } : Env) eX.spec .none := eqn Tryz.f343
theorem bU.eq (G : bG) : Eqn (Q [aK.spec G, aN.spec]) (bU.g.sp 188 fun x => R.bU G x) .none := eqn Tryz.f188
theorem dZ.eq : Eqn (Q [jK.spec, cR.spec, eF.spec, ak.spec, gA.spec]) dZ.spec .none := eqn Tryz.f360
theorem jH.eq : Eqn (Q [gG.spec, bu.spec, gU.spec, gR.spec, ea.spec]) jH.spec .none := eqn Tryz.f359
theorem ky.eq : Eqn (Q [kX.spec, jZ.spec, jR.spec, di.spec, gS.spec, mJ.spec]) ky.spec .none := eqn Tryz.f279
theorem bF.eq : Eqn (Q [aM.spec, aO.spec]) bF.spec .none := eqn Tryz.f116
theorem nE.eq : Eqn (Q [jI.spec, eT.spec, di.spec, gS.spec]) nE.spec .none := eqn Tryz.f364
theorem aw.eq : Eqn (Q [fV.spec, aM.spec]) aw.spec .none := eqn Tryz.f152
theorem mC.eq : Eqn (Q [aV.spec, ga.spec]) mC.spec .none := eqn Tryz.f186
theorem j9.eq : Eqn (Q [iz.spec, ea.spec]) j9.spec .none := eqn Tryz.f409
theorem cc.eq : Eqn (Q [cy.spec]) cc.spec .none := eqn Tryz.f92
theorem aL.eq : Eqn (Q [cy.spec]) aL.spec .none := eqn Tryz.f199
theorem cY.eq : Eqn (Q [jd 67 (.int .u16)]) cY.spec .none := eqn Tryz.f196
theorem gz.eq : Eqn (Q [dA.spec]) gz.spec .none := eqn Tryz.f370
theorem gd.eq : Eqn (Q []) gd.spec .none := eqn Tryz.f52
theorem gP.eq : Eqn (Q []) gP.spec .none := eqn Tryz.f131
theorem kI.eq : Eqn (Q []) kI.spec .none := eqn Tryz.f368
theorem lS.eq : Eqn (Q []) lS.spec .none := eqn Tryz.f437
theorem mG.eq : Eqn (Q []) mG.spec .none := eqn Tryz.f17
end Go.Mach
