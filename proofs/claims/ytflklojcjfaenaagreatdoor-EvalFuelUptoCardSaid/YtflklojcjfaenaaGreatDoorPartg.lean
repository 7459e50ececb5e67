/-
  Proved here: the law renlaw12.EvalFuel returns true for every input of the stated bulk and leaves its arguments as they were; no further condition.
  By an AI agent; no person has read it.
-/
import Derived.Test.YtflklojcjfaenaaGreatDoorPartf
import Derived.KernelRfl
import Derived.Test.YtflklojcjfaenaaGreatDoorProg
set_option linter.all false
set_option linter.deprecated false
set_option linter.unusedVariables false
set_option maxRecDepth 100000
namespace Go.Mach
open Go.Proofs
theorem fo.eq : Eqn (Q [gl.spec, dU.spec, bn.spec, cA.spec, gV.spec, dz.spec, aC.spec, dZ.spec, eE.spec, ij.spec, jH.spec, ak.spec, dy.spec]) fo.spec (.r (.r (.two (.l (.piece [(.nrm, ⟨[(38, vb)], rg 31 7, [], []⟩)] .none)) (.r (.r (.r (.r (.r (.r (.two (.piece [(.nrm, ⟨[(17, (false, (.frz (.int .u64)))), (18, vi)], [16] ++ rg 63 10, [], []⟩), (.ret, ⟨[(9, vi)], [16, 17] ++ rg 63 15, [(2, aF), (7, (.box (.frz aA)))], [0, 1]⟩)] .none) (.r (.l (.piece [(.nrm, ⟨[(17, (false, (.frz (.int .u64))))], rg 82 13 ++ rg 99 9, [], []⟩), (.ret, ⟨[(9, vi)], rg 82 17, [(2, aF), (7, (.box (.frz aA)))], [0, 1]⟩)] (.l (.two (.piece [(.nrm, ⟨[(82, vb)], rg 83 12, [], []⟩)] .none) (.r (.l (.piece [(.nrm, ⟨[(99, vb)], rg 100 5, [], []⟩)] .none)))))))))))))))))) := eqn Tryz.f336
theorem jq.eq : Eqn (Q [ib.spec]) jq.spec (.r (.l (.r (.l (.two (.piece [(.nrm, ⟨[(7, vb)], [8, 9], [], []⟩)] .none) (.r (.two (.piece [(.nrm, ⟨[(10, vb)], rg 11 5, [], []⟩)] .none) (.r (.two (.piece [(.nrm, ⟨[(17, vb)], [18, 19], [], []⟩)] .none) (.r (.two (.piece [(.nrm, ⟨[(21, vb)], [22, 23], [], []⟩)] .none) (.r (.r (.r (.r (.r (.r (.r (.r (.r (.r (.r (.r (.r (.two (.piece [(.nrm, ⟨[(50, vb)], [51, 52], [], []⟩)] .none) (.r (.r (.r (.r (.r (.r (.r (.two (.piece [(.nrm, ⟨[(63, vb)], [64, 65], [], []⟩)] .none) (.r (.two (.piece [(.nrm, ⟨[(67, vb)], [68, 69, 70], [], []⟩)] .none) (.r (.r (.r (.r (.r (.l (.piece [(.nrm, ⟨[(78, vb)], [79, 80], [], []⟩)] .none)))))))))))))))))))))))))))))))))))))))))) := eqn Tryz.f47
theorem dt.eq (G : ay) : Eqn (Q [jd 133 .str, dM.spec G, cw.spec G, dP.spec G, aE.spec G, dm.spec G, aQ.spec G, eL.spec G, dO.spec G, gP.spec]) (dt.g.sp 93 fun x => R.dt G x.1 x.2.1 x.2.2.1 x.2.2.2) (.r (.r (.r (.l (.r (.l (.r (.r (.r (.r (.two (.piece [(.nrm, ⟨[(52, vb)], [53, 54], [], []⟩)] .none) (.r (.r (.r (.r (.r (.r (.r (.r (.r (.r (.r (.r (.r (.r (.r (.r (.r (.r (.l (.r (.l (.l (.piece [(.nrm, ⟨[(150, vb)], rg 141 9, [], []⟩)] .none)))))))))))))))))))))))))))))))))) := eqn Tryz.f93
theorem jj.eq : Eqn (Q [lF.spec, jw.spec, jy.spec, jV.spec, lI.spec, fi.spec]) jj.spec (.r (.r (.r (.r (.two (.piece [(.nrm, ⟨[(4, (false, (.frz (.list (.int .u16)))))], rg 21 9, [], []⟩)] (.l (.piece [(.nrm, ⟨[(27, vb)], rg 21 6, [], []⟩)] .none))) (.l (.l (.r (.l (.l (.l (.loop ⟨[(4, (false, (.frz (.list (.int .u16)))))], rg 33 11, [], []⟩ [(.ext 1, ⟨[(4, (false, (.frz (.list (.int .u16)))))], rg 33 11, [], []⟩)] (.l (.l (.piece [(.nrm, ⟨[(41, vb)], rg 33 8, [], []⟩)] .none))))))))))))))) := eqn Tryz.f407
theorem lI.eq : Eqn (Q [j7.spec]) lI.spec (.r (.two (.l (.loop ⟨[(0, (false, (.frz (.list (.int .u16)))))], rg 3 11, [], []⟩ [(.ext 0, ⟨[(0, (false, (.frz (.list (.int .u16)))))], rg 3 11, [], []⟩)] (.l (.l (.piece [(.nrm, ⟨[(11, vb)], rg 3 8, [], []⟩)] .none))))) (.l (.l (.loop ⟨[(0, (false, (.frz (.list (.int .u16)))))], rg 14 17, [], []⟩ [(.ext 2, ⟨[(0, (false, (.frz (.list (.int .u16)))))], rg 14 17, [], []⟩)] (.l (.l (.piece [(.nrm, ⟨[(25, vb)], rg 14 11, [], []⟩)] .none)))))))) := eqn Tryz.f421
theorem dV.eq (G : ay) : Eqn (Q [gN.spec, aX.spec, aE.spec G, cj.spec]) (dV.g.sp 200 fun x => R.dV G x.1 x.2.1 x.2.2) (.r (.r (.r (.l (.r (.l (.loop ⟨[(26, vi)], [7] ++ rg 10 4 ++ rg 27 26, [(2, aF)], [5, 6]⟩ [(.ext 0, ⟨[], [7] ++ rg 10 4 ++ rg 26 27, [(2, aF)], [5, 6]⟩), (.ret, ⟨[(7, vi)], rg 10 4 ++ rg 26 27, [(2, aF), (4, (.box (.frz aA)))], [5, 6]⟩)] .none))))))) := eqn Tryz.f200
theorem jz.eq : Eqn (Q [gj.spec, kE.spec]) jz.spec (.r (.l (.r (.l (.loop ⟨[(12, vi)], [6, 8, 9] ++ rg 13 43, [], []⟩ [(.ext 0, ⟨[], [6, 8, 9] ++ rg 12 44, [], []⟩), (.ret, ⟨[(6, vb)], [8, 9] ++ rg 12 44, [], []⟩)] (.r (.r (.l (.l (.r (.r (.l (.two (.piece [(.nrm, ⟨[(21, vb)], rg 22 8, [], []⟩)] .none) (.r (.l (.piece [(.nrm, ⟨[(30, vb)], rg 31 15, [], []⟩)] .none)))))))))))))))) := eqn Tryz.f33
theorem kM.eq : Eqn (Q [lF.spec, eU.spec, gl.spec, cu.spec, bu.spec, dC.spec, bT.spec, mB.spec, lD.spec]) kM.spec (.r (.two (.r (.l (.r (.r (.r (.r (.r (.r (.l (.piece [(.nrm, ⟨[(34, vb)], [35, 36], [], []⟩)] .none)))))))))) (.r (.l (.l (.r (.r (.l (.piece [(.nrm, ⟨[(47, vb)], rg 48 7, [], []⟩)] .none))))))))) := eqn Tryz.f247
theorem gv.eq : Eqn (Q []) gv.spec (.r (.r (.l (.r (.l (.loop ⟨[(15, vi)], [4, 5, 7] ++ rg 16 29, [(2, (.own .i))], []⟩ [(.ext 0, ⟨[], [4, 5, 7] ++ rg 15 30, [(2, (.own .i))], []⟩)] (.r (.r (.l (.l (.r (.r (.r (.l (.loop ⟨[(31, vi)], [7] ++ rg 32 12, [(2, (.own .i))], []⟩ [(.ext 2, ⟨[], [7] ++ rg 31 13, [(2, (.own .i))], []⟩)] .none))))))))))))))) := eqn Tryz.f26
theorem fE.eq : Eqn (Q [dW.spec, bc.spec]) fE.spec (.r (.l (.r (.l (.loop ⟨[(1, vi), (16, vi)], rg 7 4 ++ rg 17 28, [], []⟩ [(.ext 0, ⟨[], [1] ++ rg 7 4 ++ rg 16 29, [], []⟩), (.ret, ⟨[(7, vi), (8, vb)], [1, 9, 10] ++ rg 16 29, [(3, (.box (.frz aA)))], []⟩)] .none))))) := eqn Tryz.f286
theorem bW.eq : Eqn (Q [bx.spec]) bW.spec (.r (.r (.l (.l (.loop ⟨[(5, (false, (.own .y)))], rg 6 24, [(0, bH)], []⟩ [(.ext 0, ⟨[(5, (false, (.own .y)))], rg 6 24, [(0, bH)], []⟩)] .none))))) := eqn Tryz.f139
theorem kN.eq : Eqn (Q [iD.spec]) kN.spec (.r (.r (.l (.r (.l (.loop ⟨[(1, (false, .w)), (5, (false, (.own .w))), (10, vi)], [7] ++ rg 11 13, [], []⟩ [(.ext 0, ⟨[(1, (false, .w)), (5, (false, (.own .w)))], [7] ++ rg 10 14, [], []⟩)] .none)))))) := eqn Tryz.f416
theorem dJ.eq (G : ay) : Eqn (Q [gl.spec, aE.spec G]) (dJ.g.sp 226 fun x => R.dJ G x.1 x.2.1 x.2.2) (.r (.r (.r (.r (.l (.piece [(.nrm, ⟨[(10, vb)], rg 25 19, [], []⟩)] .none)))))) := eqn Tryz.f226
theorem lB.eq : Eqn (Q [kX.spec, di.spec, gS.spec]) lB.spec (.r (.r (.l (.l (.two (.piece [(.nrm, ⟨[(11, vb)], rg 12 5, [], []⟩)] .none) (.r (.l (.piece [(.nrm, ⟨[(17, vb)], rg 18 5, [], []⟩)] .none)))))))) := eqn Tryz.f372
theorem gh.eq : Eqn (Q [dU.spec, aC.spec]) gh.spec (.r (.r (.l (.piece [(.nrm, ⟨[(10, vi)], rg 18 8, [], []⟩)] (.l (.piece [(.nrm, ⟨[(25, vb)], rg 18 7, [], []⟩)] .none)))))) := eqn Tryz.f386
theorem lD.eq : Eqn (Q [ec.spec, jl.spec, fh.spec, dA.spec]) lD.spec (.r (.r (.l (.r (.l (.r (.r (.l (.piece [(.nrm, ⟨[(10, vb)], [11, 12], [], []⟩)] .none))))))))) := eqn Tryz.f180
theorem ba.eq : Eqn (Q [bc.spec, eK.spec, eQ.spec]) ba.spec (.r (.l (.l (.piece [(.nrm, ⟨[(24, vb)], rg 14 10, [], []⟩)] .none)))) := eqn Tryz.f61
theorem cN.eq (G : ay) : Eqn (Q [fI.spec, bt.spec G]) (cN.g.sp 231 fun x => R.cN G x.1 x.2.1 x.2.2) .none := eqn Tryz.f231
theorem jb.eq : Eqn (Q [kT.spec, j8.spec, eA.spec, da.spec, gv.spec]) jb.spec .none := eqn Tryz.f21
theorem fm.eq : Eqn (Q [jn.spec, dB.spec, bW.spec]) fm.spec .none := eqn Tryz.f106
theorem lf.eq : Eqn (Q [ez.spec, gE.spec, mb.spec, gr.spec]) lf.spec .none := eqn Tryz.f49
theorem gp.eq : Eqn (Q [eR.spec, gC.spec, mG.spec]) gp.spec .none := eqn Tryz.f10
theorem dU.eq : Eqn (Q [cQ.spec, bu.spec, lN.spec]) dU.spec .none := eqn Tryz.f296
theorem aX.eq : Eqn (Q [cy.spec, gY.spec]) aX.spec .none := eqn Tryz.f60
theorem eh.eq : Eqn (Q [dh.spec]) eh.spec .none := eqn Tryz.f344
theorem jh.eq : Eqn (Q [bn.spec, gK.spec]) jh.spec .none := eqn Tryz.f411
theorem jZ.eq : Eqn (Q [eT.spec, jL.spec]) jZ.spec .none := eqn Tryz.f309
theorem ku.eq : Eqn (Q [lr.spec, jn.spec]) ku.spec .none := eqn Tryz.f76
theorem iA.eq : Eqn (Q [cu.spec]) iA.spec .none := eqn Tryz.f326
theorem eT.eq : Eqn (Q [jL.spec]) eT.spec .none := eqn Tryz.f210
theorem cy.eq : Eqn (Q []) cy.spec .none := eqn Tryz.f87
theorem ig.eq : Eqn (Q []) ig.spec .none := eqn Tryz.f178
theorem ki.eq : Eqn (Q []) ki.spec .none := eqn Tryz.f138
theorem fV.eq : Eqn (Q []) fV.spec .none := eqn Tryz.f112
end Go.Mach
set_option linter.unusedVariables false
set_option maxRecDepth 100000
namespace Go.Mach
open Go.Proofs
theorem iF.eq : Eqn (Q [cY.spec, gN.spec, jv.spec, aX.spec, aL.spec, aC.spec, bl.spec, gW.spec, bJ.spec, cj.spec]) iF.spec (.r (.r (.r (.r (.two (.piece [(.nrm, ⟨[(7, vi)], rg 19 10, [], []⟩)] .none) (.two (.piece [(.nrm, ⟨[(6, (false, (.own (.frz (.list (.int .u16))))))], [8, 29] ++ rg 34 27, [], []⟩), (.ret, ⟨[(5, vi)], rg 29 7 ++ [43, 44], [(2, aF), (6, (.box (.frz aA)))], [0, 1]⟩)] (.r (.l (.r (.r (.r (.l (.r (.l (.loop ⟨[(6, (false, (.own (.frz (.list (.int .u16)))))), (52, vi)], [8] ++ rg 53 8, [], []⟩ [(.ext 1, ⟨[(6, (false, (.own (.frz (.list (.int .u16))))))], [8] ++ rg 52 9, [], []⟩)] .none)))))))))) (.r (.r (.l (.r (.l (.loop ⟨[(73, vi)], [11, 12] ++ rg 74 16, [(9, eY)], [8]⟩ [(.ext 3, ⟨[], [11, 12] ++ rg 73 17, [(9, eY)], [8]⟩)] .none)))))))))))) := eqn Tryz.f328
def aY.ann : Ann := (.r (.r (.two (.piece [(.nrm, ⟨[], rg 6 5, [(0, aD), (3, (.box mS))], [2]⟩)] .none) (.l (.loop ⟨[], [4] ++ rg 11 27, [(0, aD), (3, (.box mS))], [5]⟩ [(.ret, ⟨[], [4] ++ rg 11 27, [(0, aD), (1, (.box mS))], [3, 5]⟩)] (.l (.r (.two (.piece [(.nrm, ⟨[], rg 14 9, [(0, aD), (12, (.box mS))], [11]⟩)] .none) (.r (.l (.piece [(.nrm, ⟨[(36, vb)], rg 29 7, [(0, aD)], []⟩)] .none)))))))))))
theorem aY.eq_ (g_parse_made : type_of% R.aU) (g_parse_named : type_of% R.ax) (g_parse_parser_fine : type_of% R.bw) (g_parse_parser_name : type_of% R.bF) (g_parse_parser_need : type_of% R.aN) (g_parse_parser_take : type_of% R.aG) (G : bG) : Eqn (Q [(aU.g.sp 72 fun x => g_parse_made x.1 x.2), (ax.g.sp 148 fun x => g_parse_named x.1 x.2.1 x.2.2), aK.spec G, (bw.g.sp 150 fun x => g_parse_parser_fine x), (bF.g.sp 116 fun x => g_parse_parser_name x), (aN.g.sp 147 fun x => g_parse_parser_need x.1 x.2), (aG.g.sp 115 fun x => g_parse_parser_take x.1 x.2)]) (aY.g.sp 113 fun x => Res.given (aY.g.i x) (Res.bind (g_parse_made 5 ([] : List (aH aB.den))) fun r1 => Res.given (aU.g.o r1) (Res.bind (α := (aD.den × (aB.den × (List (aH aB.den))))) (Res.bind (g_parse_parser_take x [99, 111, 110, 115, 116]) fun r2 => Res.given (aG.g.o r2) (Res.br r2.1 (Res.bind (g_parse_made 6 ([] : List (aH aB.den))) fun r3 => Res.given (aU.g.o r3) (Res.ok ((r2.2, r3)))) (Res.bind (g_parse_parser_need r2.2 [108, 101, 116]) fun r4 => Res.given (aN.g.o r4) (Res.ok ((r4.2, r1)))))) fun x5 => Res.bind (Res.loop (α := (aD.den × (aB.den × (List (aH aB.den))))) (β := (aD.den × (aB.den × (List (aH aB.den))))) (fun x6 => Res.bind (g_parse_parser_name x6.1) fun r7 => Res.given (bF.g.o r7) (Res.bind (g_parse_named 7 r7.1 ([] : List (aH aB.den))) fun r8 => Res.given (ax.g.o r8) (Res.bind (α := (aD.den × (aB.den × (List (aH aB.den))))) (Res.bind (g_parse_parser_take r7.2 [61]) fun r9 => Res.given (aG.g.o r9) (Res.br r9.1 (Res.bind (G.aK r9.2) fun r10 => Res.given (aK.g.o r10) (Res.ai (decide ((r8.2.length + [(aH.mk (aH.lab r10.1) (aH.kids r10.1))].length) * 144 ≤ 2 ^ 47)) (Res.ok ((r10.2, (r8.1, (r8.2 ++ [(aH.mk (aH.lab r10.1) (aH.kids r10.1))]))))))) (Res.ok ((r9.2, r8))))) fun x11 => Res.ai (decide ((x6.2.2.length + [(aH.mk x11.2.1 x11.2.2)].length) * 144 ≤ 2 ^ 47)) (Res.bind (α := (Bool × aD.den)) (Res.bind (g_parse_parser_fine x11.1) fun r12 => Res.br (!r12) (Res.ok ((true, x11.1))) (Res.bind (g_parse_parser_take x11.1 [44]) fun r13 => Res.given (aG.g.o r13) (Res.ok (((!r13.1), r13.2))))) fun x14 => Res.br x14.1 (Res.ok (.done ((x14.2, (x6.2.1, (x6.2.2 ++ [(aH.mk x11.2.1 x11.2.2)])))))) (Res.ok (.next ((x14.2, (x6.2.1, (x6.2.2 ++ [(aH.mk x11.2.1 x11.2.2)])))))))))) fuel x5) fun x15 => Res.ok (((aH.mk x15.2.1 x15.2.2), x15.1))))) aY.ann := eqn Tryz.f113
theorem aY.eq (G : bG) : Eqn (Q [aU.spec, ax.spec, aK.spec G, bw.spec, bF.spec, aN.spec, aG.spec]) (aY.g.sp 113 fun x => R.aY G x) aY.ann := aY.eq_ R.aU R.ax R.bw R.bF R.aN R.aG G
theorem cz.eq : Eqn (Q [dx.spec, ba.spec]) cz.spec (.r (.l (.r (.l (.loop ⟨[(25, vi)], [7, 9, 10, 12, 13, 14] ++ rg 26 68, [(2, aF)], [0, 1]⟩ [(.ext 0, ⟨[], [7, 9, 10, 12, 13, 14] ++ rg 25 69, [(2, aF)], [0, 1]⟩), (.ret, ⟨[(7, vi)], [9, 10, 12, 13, 14] ++ rg 25 69, [(2, aF), (4, (.box (.frz aA)))], [0, 1]⟩)] (.r (.r (.l (.l (.r (.r (.r (.l (.two (.piece [(.nrm, ⟨[(39, vb)], [40, 41], [], []⟩)] .none) (.l (.r (.l (.loop ⟨[(45, vi)], [12] ++ rg 46 24, [(7, eY)], [6]⟩ [(.ext 3, ⟨[], [12] ++ rg 45 25, [(7, eY)], [6]⟩)] .none)))))))))))))))))) := eqn Tryz.f35
theorem dS.eq (G : ay) : Eqn (Q [eU.spec, cu.spec, cY.spec, bT.spec, dV.spec G, aL.spec, dx.spec, cq.spec G, cC.spec G, fZ.spec]) (dS.g.sp 164 fun x => R.dS G x.1 x.2.1 x.2.2) (.r (.r (.l (.r (.l (.r (.r (.r (.r (.r (.r (.r (.r (.two (.piece [(.nrm, ⟨[(43, vb)], [44, 45], [], []⟩)] .none) (.r (.r (.r (.r (.r (.r (.r (.r (.r (.l (.piece [(.nrm, ⟨[(82, vb)], [83, 84], [], []⟩)] .none))))))))))))))))))))))))) := eqn Tryz.f164
theorem nG.eq : Eqn (Q [kI.spec, ec.spec, jt.spec, jl.spec, ep.spec, fG.spec, dd.spec, fB.spec, fh.spec, gz.spec, gF.spec]) nG.spec (.r (.r (.r (.two (.l (.two (.piece [(.nrm, ⟨[(18, vb)], rg 19 22, [], []⟩)] .none) (.r (.two (.piece [(.nrm, ⟨[(42, vb)], rg 43 6, [], []⟩)] .none) (.r (.l (.piece [(.nrm, ⟨[(51, vb)], rg 52 6, [], []⟩)] .none))))))) (.r (.l (.l (.piece [(.nrm, ⟨[(75, vb)], rg 70 5, [], []⟩)] .none)))))))) := eqn Tryz.f319
theorem cp.eq (G : ay) : Eqn (Q [dU.spec, cA.spec, aX.spec, dE.spec G, aL.spec, fJ.spec, aC.spec, fp.spec, fL.spec, kL.spec]) (cp.g.sp 258 fun x => R.cp G x.1 x.2.1 x.2.2) (.r (.l (.r (.l (.two (.piece [(.nrm, ⟨[(12, vb)], rg 13 5, [], []⟩)] .none) (.r (.l (.piece [(.nrm, ⟨[(22, vb)], rg 23 5, [], []⟩)] .none)))))))) := eqn Tryz.f258
theorem nI.eq : Eqn (Q [ec.spec, jt.spec, jl.spec, ep.spec, fG.spec, dd.spec, fB.spec, fh.spec, gz.spec, gF.spec]) nI.spec (.r (.r (.r (.l (.l (.two (.piece [(.nrm, ⟨[(16, vb)], rg 17 22, [], []⟩)] .none) (.r (.two (.piece [(.nrm, ⟨[(40, vb)], rg 41 6, [], []⟩)] .none) (.r (.l (.piece [(.nrm, ⟨[(49, vb)], rg 50 6, [], []⟩)] .none))))))))))) := eqn Tryz.f320
theorem et.eq : Eqn (Q [bu.spec, bn.spec, cF.spec, fH.spec, cR.spec, aC.spec]) et.spec (.r (.r (.l (.piece [(.nrm, ⟨[], [13, 14] ++ rg 18 10 ++ [33, 34], [(7, (.box (.frz aI)))], []⟩), (.ret, ⟨[(11, vi)], [13, 14] ++ rg 18 15, [(2, aF), (6, (.box (.frz aA)))], [0, 1]⟩)] .none)))) := eqn Tryz.f388
theorem ic.eq : Eqn (Q [gH.spec, je.spec, jz.spec, eb.spec, jk.spec, bM.spec]) ic.spec (.r (.r (.two (.l (.piece [(.nrm, ⟨[(31, vb)], rg 19 12, [], []⟩)] .none)) (.l (.r (.l (.r (.r (.r (.r (.l (.piece [(.nrm, ⟨[(64, vb)], [65, 66], [], []⟩)] .none)))))))))))) := eqn Tryz.f16
theorem jC.eq (fu : Nat) : Eqn (Q [(jC.spec fu)]) (jC.g.sp 75 fun x => R.jC (fu + 1) x.1 x.2) (.r (.r (.r (.r (.l (.r (.l (.loop ⟨[(6, (false, (.own .i))), (28, vi)], [8] ++ rg 29 10, [(1, pA)], [4]⟩ [(.ext 0, ⟨[(6, (false, (.own .i)))], [8] ++ rg 28 11, [(1, pA)], [4]⟩)] .none)))))))) := eqn Tryz.f75
theorem aR.eq : Eqn (Q []) aR.spec (.r (.l (.loop ⟨[(10, vi)], rg 11 27, [(0, (.own (.frz (.list (.int .u16)))))], []⟩ [(.ext 0, ⟨[], rg 10 28, [(0, (.own (.frz (.list (.int .u16)))))], []⟩)] .none))) := eqn Tryz.f442
theorem de.eq : Eqn (Q [eS.spec]) de.spec (.r (.l (.r (.l (.loop ⟨[(11, vi)], rg 4 5 ++ rg 12 19, [], []⟩ [(.ext 0, ⟨[], rg 4 5 ++ rg 11 20, [], []⟩), (.ret, ⟨[(4, vi)], rg 5 4 ++ rg 11 20, [], []⟩)] .none))))) := eqn Tryz.f371
theorem cJ.eq (G : bG) : Eqn (Q [aU.spec, aK.spec G, bg.spec G, aN.spec, aG.spec]) (cJ.g.sp 185 fun x => R.cJ G x) .none := eqn Tryz.f185
theorem eM.eq : Eqn (Q []) eM.spec (.r (.l (.r (.l (.loop ⟨[(8, vi)], [4, 5] ++ rg 9 10, [], []⟩ [(.ext 0, ⟨[], [4, 5] ++ rg 8 11, [], []⟩), (.ret, ⟨[(4, vi)], [5] ++ rg 8 11, [], []⟩)] .none))))) := eqn Tryz.f238
theorem il.eq : Eqn (Q []) il.spec (.r (.r (.l (.r (.l (.loop ⟨[(5, (false, (.own .s))), (15, vi)], [7] ++ rg 16 13, [], []⟩ [(.ext 0, ⟨[(5, (false, (.own .s)))], [7] ++ rg 15 14, [], []⟩)] .none)))))) := eqn Tryz.f53
theorem aO.eq : Eqn (Q [jn.spec, cX.spec, aM.spec]) aO.spec (.r (.l (.l (.piece [(.nrm, ⟨[(13, vb)], rg 5 8, [], []⟩)] .none)))) := eqn Tryz.f151
theorem av.eq (G : bG) : Eqn (Q [bk.spec G, aN.spec]) (av.g.sp 355 fun x => R.av G x) .none := eqn Tryz.f355
theorem fI.eq : Eqn (Q [dv.spec, jv.spec, aL.spec, gD.spec, aC.spec, iI.spec]) fI.spec .none := eqn Tryz.f263
theorem bM.eq : Eqn (Q [bQ.spec]) bM.spec .none := eqn Tryz.f31
theorem dC.eq : Eqn (Q [eU.spec, cQ.spec, cu.spec, bu.spec, kt.spec]) dC.spec .none := eqn Tryz.f251
theorem ke.eq : Eqn (Q []) ke.spec (.r (.l (.r (.l (.l (.piece [(.nrm, ⟨[(4, vb)], rg 5 33, [], []⟩)] .none)))))) := eqn Tryz.f245
theorem ev.eq : Eqn (Q [bZ.spec]) ev.spec .none := eqn Tryz.f142
theorem du.eq : Eqn (Q [eM.spec]) du.spec .none := eqn Tryz.f211
theorem gX.eq : Eqn (Q [bc.spec, iL.spec]) gX.spec .none := eqn Tryz.f204
theorem dy.eq : Eqn (Q [dX.spec]) dy.spec .none := eqn Tryz.f335
theorem cU.eq : Eqn (Q [aC.spec]) cU.spec .none := eqn Tryz.f246
theorem kl.eq : Eqn (Q [kU.spec, mL.spec]) kl.spec .none := eqn Tryz.f327
theorem eC.eq : Eqn (Q []) eC.spec .none := eqn Tryz.f412
theorem bI.eq : Eqn (Q []) bI.spec .none := eqn Tryz.f155
theorem aM.eq : Eqn (Q []) aM.spec .none := eqn Tryz.f73
theorem bc.eq : Eqn (Q []) bc.spec .none := eqn Tryz.f68
theorem iS.eq : Eqn (Q []) iS.spec .none := eqn Tryz.f271
theorem gx.eq : Eqn (Q []) gx.spec .none := eqn Tryz.f107
theorem cu.eq : Eqn (Q []) cu.spec .none := eqn Tryz.f194
end Go.Mach
set_option linter.unusedVariables false
set_option maxRecDepth 100000
namespace Go.Mach
open Go.Proofs
theorem ee.eq : Eqn (Q [jg.spec, eo.spec]) ee.spec (.r (.r (.r (.r (.l (.l (.loop ⟨[], [3, 6, 7, 8] ++ rg 27 63, [(0, bH), (2, (.box (.seq .i (.seq .s (.seq (.own .h) (.seq (.frz aI) (.seq (.seq .b (.own .w)) (.seq .i .b))))))))], []⟩ [(.ext 0, ⟨[], [3, 6, 7, 8] ++ rg 27 63, [(0, bH)], [2]⟩), (.ret, ⟨[(3, vi)], [6, 7, 8] ++ rg 27 63, [(0, bH), (1, (.box (.seq .i (.seq .s (.seq (.own .h) (.seq (.frz aI) (.seq (.seq .b (.own .w)) (.seq .i .b))))))))], [2]⟩)] (.two (.l (.piece [(.nrm, ⟨[(50, vb)], rg 27 23, [], []⟩)] .none)) (.l (.r (.r (.r (.l (.piece [(.nrm, ⟨[(6, (false, .h))], [7, 8] ++ rg 72 9 ++ [83], [(0, bH)], []⟩), (.ret, ⟨[(3, vi)], [7, 8] ++ rg 72 11, [(0, bH), (1, (.box (.seq .i (.seq .s (.seq (.own .h) (.seq (.frz aI) (.seq (.seq .b (.own .w)) (.seq .i .b))))))))], []⟩)] .none)))))))))))))) := eqn Tryz.f109
theorem gD.eq : Eqn (Q [cY.spec, bn.spec, db.spec, gQ.spec, gu.spec, cF.spec, fP.spec, aL.spec, iJ.spec, eX.spec, gL.spec, iW.spec, fE.spec, dW.spec, ak.spec, aV.spec, ae.spec, fg.spec, fi.spec]) gD.spec (.r (.r (.two (.piece [(.nrm, ⟨[(8, vs)], [25, 26], [], []⟩)] .none) (.r (.r (.r (.l (.r (.l (.r (.two (.r (.l (.l (.piece [(.nrm, ⟨[(82, vb)], rg 73 9, [], []⟩)] .none)))) (.r (.r (.r (.r (.r (.r (.l (.piece [(.nrm, ⟨[(125, vb)], [126, 127], [], []⟩)] .none))))))))))))))))))) := eqn Tryz.f305
theorem dq.eq : Eqn (Q [fb.spec, gQ.spec, iS.spec]) dq.spec (.r (.r (.two (.r (.l (.loop ⟨[(1, (false, (.own .s))), (13, vi)], [3, 5] ++ rg 14 19, [], [0]⟩ [(.ext 0, ⟨[(1, (false, (.own .s)))], [3, 5] ++ rg 13 20, [], [0]⟩)] (.r (.r (.l (.l (.r (.r (.l (.loop ⟨[(1, (false, (.own .s))), (20, vi)], [5] ++ rg 21 11, [], [4]⟩ [(.ext 2, ⟨[(1, (false, (.own .s)))], [5] ++ rg 20 12, [], [4]⟩)] .none))))))))))) (.r (.l (.r (.l (.loop ⟨[(1, (false, (.own .s))), (38, vi)], [7] ++ rg 39 11, [], [6]⟩ [(.ext 4, ⟨[(1, (false, (.own .s)))], [7] ++ rg 38 12, [], [6]⟩)] .none)))))))) := eqn Tryz.f302
theorem aK.eq (G : bG) : Eqn (Q [fV.spec, ax.spec, bI.spec, fA.spec, aK.spec G, b9.spec G, cJ.spec G, cX.spec, aM.spec, dH.spec, mC.spec, gr.spec]) (aK.g.sp 149 fun x => R.aK G x) (.r (.two (.r (.l (.piece [(.nrm, ⟨[(21, vb)], rg 8 13, [], []⟩)] .none))) (.r (.r (.r (.l (.l (.piece [(.nrm, ⟨[(53, vb)], rg 45 8, [], []⟩)] .none)))))))) := eqn Tryz.f149
theorem bh.eq (G : bG) : Eqn (Q [aU.spec, av.spec G, bh.spec G, bS.spec G, aw.spec, bY.spec G, aG.spec]) (bh.g.sp 354 fun x => R.bh G x) (.r (.r (.r (.l (.l (.loop ⟨[(4, vb)], rg 13 7, [(0, aD), (4, (.box (.frz (.rose aB))))], []⟩ [(.ext 0, ⟨[], [4] ++ rg 13 7, [(0, aD), (4, (.box (.frz (.rose aB))))], []⟩)] .none)))))) := eqn Tryz.f354
theorem aj.eq (G : bG) : Eqn (Q [aU.spec, bw.spec, bj.spec G, aN.spec, aG.spec]) (aj.g.sp 154 fun x => R.aj G x) (.r (.r (.r (.l (.l (.loop ⟨[], rg 7 14, [(0, aD), (3, (.box mS))], [2]⟩ [(.ext 0, ⟨[], rg 7 14, [(0, aD), (3, (.box mS))], [2]⟩)] (.l (.l (.piece [(.nrm, ⟨[(13, vb)], rg 7 6, [(0, aD)], []⟩)] .none))))))))) := eqn Tryz.f154
theorem dO.eq (G : ay) : Eqn (Q [jx.spec, cK.spec G, aQ.spec G]) (dO.g.sp 129 fun x => R.dO G x.1 x.2.1 x.2.2.1 x.2.2.2) (.r (.l (.r (.l (.loop ⟨[], rg 9 33, [(2, aF)], [0, 1]⟩ [(.ret, ⟨[], rg 9 33, [(2, aF), (4, (.box (.frz aT)))], [0, 1]⟩)] (.l (.r (.l (.l (.piece [(.nrm, ⟨[(27, vb)], rg 21 6, [], []⟩)] .none)))))))))) := eqn Tryz.f129
theorem bS.eq (G : bG) : Eqn (Q [aU.spec, ax.spec, aK.spec G, aN.spec, aM.spec, aO.spec, aG.spec]) (bS.g.sp 356 fun x => R.bS G x.1 x.2) (.r (.l (.l (.r (.l (.r (.l (.l (.piece [(.nrm, ⟨[(19, vb)], rg 12 7, [], []⟩)] .none))))))))) := eqn Tryz.f356
theorem b9.eq (G : bG) : Eqn (Q [aU.spec, aK.spec G, aj.spec G, aN.spec, aM.spec, aw.spec, aO.spec]) (b9.g.sp 183 fun x => R.b9 G x.1 x.2) (.r (.l (.piece [(.nrm, ⟨[], rg 6 5, [(0, aD)], []⟩)] .none))) := eqn Tryz.f183
theorem gH.eq : Eqn (Q [fC.spec]) gH.spec (.r (.r (.l (.r (.l (.loop ⟨[(2, vi), (8, (false, (.own .i)))], [6, 7] ++ rg 13 19, [], []⟩ [(.ext 0, ⟨[(8, (false, (.own .i)))], [2, 6, 7] ++ rg 13 19, [], []⟩), (.ret, ⟨[(6, (false, (.own .i))), (7, vi)], [2, 8] ++ rg 13 19, [], []⟩)] .none)))))) := eqn Tryz.f30
theorem j6.eq : Eqn (Q [jR.spec, nA.spec, eT.spec, di.spec, gS.spec, lS.spec, iD.spec]) j6.spec (.r (.two (.l (.piece [(.nrm, ⟨[(12, vb)], rg 7 5, [], []⟩)] .none)) (.r (.l (.l (.piece [(.nrm, ⟨[(25, vb)], rg 19 6, [], []⟩)] .none)))))) := eqn Tryz.f426
theorem fl.eq : Eqn (Q []) fl.spec (.r (.l (.r (.l (.loop ⟨[(8, vi)], [2, 3, 5] ++ rg 9 8, [], []⟩ [(.ext 0, ⟨[], [2, 3, 5] ++ rg 8 9, [], []⟩), (.ret, ⟨[(2, (false, (.frz (.int .i32)))), (3, vi)], [5] ++ rg 8 9, [], []⟩)] .none))))) := eqn Tryz.f40
theorem gI.eq : Eqn (Q [lX.spec, mF.spec, iB.spec]) gI.spec (.r (.two (.l (.piece [(.nrm, ⟨[(50, vb)], rg 3 47, [], []⟩)] .none)) (.l (.r (.l (.l (.piece [(.nrm, ⟨[(53, vb)], [54, 55], [], []⟩)] .none))))))) := eqn Tryz.f23
theorem cT.eq : Eqn (Q []) cT.spec (.r (.l (.r (.l (.loop ⟨[(8, vi)], [4, 5] ++ rg 9 10, [], []⟩ [(.ext 0, ⟨[], [4, 5] ++ rg 8 11, [], []⟩), (.ret, ⟨[(4, vi)], [5] ++ rg 8 11, [], []⟩)] .none))))) := eqn Tryz.f84
theorem fp.eq : Eqn (Q [dU.spec, bn.spec, cA.spec, fQ.spec, aX.spec, aL.spec, iH.spec, aC.spec]) fp.spec .none := eqn Tryz.f301
theorem bR.eq (G : bG) : Eqn (Q [aU.spec, aK.spec G, bV.spec]) (bR.g.sp 157 fun x => R.bR G x) .none := eqn Tryz.f157
theorem aE.eq (G : ay) : Eqn (Q [cc.spec, dS.spec G]) (aE.g.sp 125 fun x => R.aE G x.1 x.2.1 x.2.2) .none := eqn Tryz.f125
theorem mX.eq : Eqn (Q [lX.spec, jf.spec, mF.spec]) mX.spec (.r (.r (.l (.r (.l (.l (.piece [(.nrm, ⟨[(7, vb)], [8, 9], [], []⟩)] .none))))))) := eqn Tryz.f94
theorem cX.eq : Eqn (Q [aM.spec]) cX.spec (.l (.piece [(.nrm, ⟨[], rg 4 15, [(0, aD)], []⟩)] .none)) := eqn Tryz.f187
theorem nR.eq : Eqn (Q [fB.spec, dA.spec]) nR.spec (.r (.l (.l (.piece [(.nrm, ⟨[(9, vb)], rg 4 5, [], []⟩)] .none)))) := eqn Tryz.f314
theorem bx.eq : Eqn (Q [fU.spec]) bx.spec .none := eqn Tryz.f110
theorem eK.eq : Eqn (Q [au.spec]) eK.spec .none := eqn Tryz.f88
theorem cR.eq : Eqn (Q [jd 67 (.int .u16), cy.spec]) cR.spec .none := eqn Tryz.f341
theorem eJ.eq : Eqn (Q [eP.spec, fc.spec]) eJ.spec .none := eqn Tryz.f4
theorem lV.eq : Eqn (Q [ec.spec, fG.spec, jY.spec]) lV.spec .none := eqn Tryz.f374
theorem gl.eq : Eqn (Q [cQ.spec, jO.spec]) gl.spec .none := eqn Tryz.f203
theorem cE.eq : Eqn (Q [aX.spec]) cE.spec .none := eqn Tryz.f34
theorem dX.eq : Eqn (Q []) dX.spec .none := eqn Tryz.f381
theorem cF.eq : Eqn (Q [cu.spec]) cF.spec .none := eqn Tryz.f350
theorem iQ.eq : Eqn (Q [ec.spec]) iQ.spec .none := eqn Tryz.f308
theorem gS.eq : Eqn (Q [lX.spec]) gS.spec .none := eqn Tryz.f99
theorem bT.eq : Eqn (Q []) bT.spec .none := eqn Tryz.f198
theorem dA.eq : Eqn (Q []) dA.spec .none := eqn Tryz.f214
theorem eU.eq : Eqn (Q []) eU.spec .none := eqn Tryz.f195
end Go.Mach
set_option linter.unusedVariables false
set_option maxRecDepth 100000
namespace Go.Mach
open Go.Proofs
theorem dE.eq (G : ay) : Eqn (Q [gl.spec, cY.spec, dv.spec, bT.spec, cA.spec, gB.spec, fq.spec, fx.spec, aL.spec, fO.spec, dp.spec G, iF.spec, er.spec, iG.spec, cU.spec, aC.spec, fo.spec, gf.spec, bJ.spec, dy.spec, dL.spec]) (dE.g.sp 295 fun x => R.dE G x.1 x.2.1 x.2.2.1 x.2.2.2) (.r (.r (.l (.r (.l (.two (.piece [(.nrm, ⟨[(18, vb)], [19, 20], [], []⟩)] .none) (.r (.r (.r (.r (.r (.r (.r (.r (.r (.r (.two (.l (.l (.piece [(.nrm, ⟨[(79, vb)], rg 67 12, [], []⟩)] .none))) (.r (.r (.r (.r (.r (.r (.r (.r (.l (.piece [(.nrm, ⟨[(134, vb)], rg 135 5, [], []⟩)] .none))))))))))))))))))))))))))) := eqn Tryz.f295
theorem cm.eq (G : ay) : Eqn (Q [aE.spec G, gT.spec, bt.spec G, aC.spec, fa.spec, iP.spec]) (cm.g.sp 227 fun x => R.cm G x.1 x.2.1 x.2.2) (.r (.r (.r (.r (.r (.two (.piece [(.nrm, ⟨[], [10] ++ rg 39 11, [(2, aF), (12, (.box (.frz aA)))], [7, 8]⟩), (.ret, ⟨[(7, vi)], [10] ++ rg 39 13, [(2, aF), (5, (.box (.frz aA)))], [7, 8, 12]⟩)] .none) (.r (.l (.piece [(.nrm, ⟨[], [13, 14] ++ rg 66 11 ++ [82], [(11, (.box (.frz aA)))], []⟩), (.ret, ⟨[(7, vi)], [13, 14] ++ rg 66 16, [(2, aF), (5, (.box (.frz aA)))], [18, 19]⟩)] .none))))))))) := eqn Tryz.f227
theorem cV.eq (G : bG) : Eqn (Q [aU.spec, aj.spec G, bF.spec, aN.spec, aw.spec, aO.spec, aG.spec]) (cV.g.sp 192 fun x => R.cV G x) (.r (.r (.r (.two (.piece [(.nrm, ⟨[], rg 18 10, [(0, aD)], []⟩)] (.l (.piece [(.nrm, ⟨[(25, vb)], rg 18 7, [], []⟩)] .none))) (.l (.piece [(.nrm, ⟨[], [4] ++ rg 28 22, [(0, aD), (6, (.own (.frz (.rose aB))))], []⟩)] (.r (.l (.r (.l (.piece [(.nrm, ⟨[], rg 31 8, [(0, aD), (11, (.box mS))], [10]⟩)] .none))))))))))) := eqn Tryz.f192
theorem i6.eq : Eqn (Q [jS.spec, lf.spec, kk.spec, jq.spec]) i6.spec (.r (.r (.r (.two (.l (.piece [(.nrm, ⟨[(36, vb)], rg 25 11, [], []⟩)] .none)) (.two (.r (.l (.loop ⟨[(40, vi)], [4, 8, 9, 10] ++ rg 41 23, [], []⟩ [(.ext 0, ⟨[], [4, 8, 9, 10] ++ rg 40 24, [], []⟩), (.ret, ⟨[(4, vb)], [8, 9, 10] ++ rg 40 24, [], []⟩)] (.r (.r (.l (.l (.r (.r (.l (.piece [(.nrm, ⟨[(10, vi)], rg 46 8, [], []⟩)] .none))))))))))) (.l (.l (.r (.r (.l (.piece [(.nrm, ⟨[(90, vb)], rg 91 9, [], []⟩)] .none))))))))))) := eqn Tryz.f24
theorem cC.eq (G : ay) : Eqn (Q [gl.spec, bX.spec G, cm.spec G, cn.spec G, ct.spec G, aE.spec G, dI.spec G, dJ.spec G, cN.spec G, dn.spec G, dN.spec G]) (cC.g.sp 202 fun x => R.cC G x.1 x.2.1 x.2.2.1 x.2.2.2) (.r (.r (.l (.r (.l (.r (.r (.l (.piece [(.nrm, ⟨[(33, vb)], [34, 35], [], []⟩)] .none))))))))) := eqn Tryz.f202
theorem cB.eq (G : bG) : Eqn (Q [aU.spec, av.spec G, bh.spec G, bS.spec G, aw.spec]) (cB.g.sp 306 fun x => R.cB G x) (.r (.l (.r (.r (.l (.l (.loop ⟨[], [4, 5] ++ rg 8 17, [(0, aD), (3, (.box (.frz (.rose aB))))], []⟩ [(.ext 0, ⟨[], [4, 5] ++ rg 8 17, [(0, aD), (3, (.box (.frz (.rose aB))))], []⟩)] .none))))))) := eqn Tryz.f306
theorem cr.eq (G : ay) : Eqn (Q [cc.spec, aE.spec G, fI.spec, bt.spec G]) (cr.g.sp 256 fun x => R.cr G x.1 x.2.1 x.2.2) (.r (.r (.two (.l (.piece [(.nrm, ⟨[(30, vb)], rg 23 7, [], []⟩)] .none)) (.r (.r (.l (.piece [(.nrm, ⟨[(14, vi)], rg 54 8, [(2, aF), (15, (.box (.frz aA)))], [11, 12]⟩)] .none))))))) := eqn Tryz.f256
theorem fN.eq : Eqn (Q [gx.spec, iT.spec, bP.spec, ed.spec, ee.spec, fk.spec, fm.spec]) fN.spec (.r (.r (.l (.l (.r (.r (.r (.r (.two (.piece [(.nrm, ⟨[(29, vb)], rg 30 6, [], []⟩)] .none) (.r (.l (.piece [(.nrm, ⟨[(40, vb)], rg 41 6, [], []⟩)] .none)))))))))))) := eqn Tryz.f71
theorem jR.eq : Eqn (Q [kR.spec]) jR.spec (.r (.r (.r (.l (.r (.l (.loop ⟨[(5, (false, (.own .w))), (6, (false, .w)), (14, vi)], rg 7 5 ++ rg 15 25, [], []⟩ [(.ext 0, ⟨[(5, (false, (.own .w)))], rg 6 6 ++ rg 14 26, [], []⟩)] (.r (.r (.l (.l (.r (.r (.l (.piece [(.nrm, ⟨[(9, (false, .w))], rg 19 8, [], []⟩)] .none))))))))))))))) := eqn Tryz.f312
theorem lO.eq : Eqn (Q [bn.spec]) lO.spec (.r (.two (.l (.piece [(.nrm, ⟨[(18, vb)], rg 9 9, [], []⟩)] .none)) (.r (.l (.r (.l (.loop ⟨[(6, (false, (.frz (.int .u64)))), (21, vi)], [7, 8] ++ rg 22 12, [], []⟩ [(.ext 0, ⟨[(6, (false, (.frz (.int .u64))))], [7, 8] ++ rg 21 13, [], []⟩)] .none))))))) := eqn Tryz.f408
theorem km.eq : Eqn (Q []) km.spec (.r (.l (.r (.l (.loop ⟨[(6, vi)], [2, 3] ++ rg 7 13, [], []⟩ [(.ext 0, ⟨[], [2, 3] ++ rg 6 14, [], []⟩), (.ret, ⟨[(2, vb)], [3] ++ rg 6 14, [], []⟩)] (.r (.r (.l (.l (.r (.l (.piece [(.nrm, ⟨[(18, vb)], rg 9 9, [], []⟩)] .none)))))))))))) := eqn Tryz.f209
theorem mM.eq : Eqn (Q [j6.spec]) mM.spec (.r (.r (.r (.l (.r (.l (.loop ⟨[(5, (false, (.frz (.int .u64)))), (16, vi)], [6, 7] ++ rg 17 12, [], []⟩ [(.ext 0, ⟨[(5, (false, (.frz (.int .u64))))], [6, 7] ++ rg 16 13, [], []⟩)] .none))))))) := eqn Tryz.f414
theorem da.eq : Eqn (Q []) da.spec (.r (.two (.piece [(.nrm, ⟨[], [5, 6, 7], [], []⟩)] .none) (.r (.l (.r (.l (.loop ⟨[(3, vi), (4, vi)], rg 12 12, [], []⟩ [(.ext 0, ⟨[(3, vi)], [4] ++ rg 12 12, [], []⟩)] .none))))))) := eqn Tryz.f25
theorem jK.eq : Eqn (Q [bn.spec]) jK.spec (.r (.r (.l (.r (.l (.loop ⟨[(5, (false, (.own .y))), (9, vi)], [6] ++ rg 10 11, [], []⟩ [(.ext 0, ⟨[(5, (false, (.own .y)))], [6] ++ rg 9 12, [], []⟩)] .none)))))) := eqn Tryz.f400
theorem eO.eq : Eqn (Q []) eO.spec (.r (.l (.r (.l (.two (.piece [(.nrm, ⟨[(5, vb)], rg 6 4, [], []⟩)] .none) (.r (.l (.piece [(.nrm, ⟨[(10, vb)], rg 11 6, [], []⟩)] .none)))))))) := eqn Tryz.f173
theorem nA.eq : Eqn (Q []) nA.spec (.r (.r (.r (.l (.r (.l (.loop ⟨[(13, vi)], [6] ++ rg 14 29, [(1, (.own .w))], []⟩ [(.ext 0, ⟨[], [6] ++ rg 13 30, [(1, (.own .w))], []⟩)] .none))))))) := eqn Tryz.f436
theorem bt.eq (G : ay) : Eqn (Q [cY.spec, aE.spec G, ae.spec]) (bt.g.sp 249 fun x => R.bt G x.1 x.2.1 x.2.2) .none := eqn Tryz.f249
theorem cK.eq (G : ay) : Eqn (Q [gl.spec, aE.spec G]) (cK.g.sp 166 fun x => R.cK G x.1 x.2.1 x.2.2) .none := eqn Tryz.f166
theorem jD.eq : Eqn (Q [ea.spec, bn.spec, aC.spec, dZ.spec, jH.spec]) jD.spec .none := eqn Tryz.f315
theorem eE.eq : Eqn (Q [eU.spec, cu.spec, ea.spec, j9.spec, kC.spec]) eE.spec .none := eqn Tryz.f384
theorem b8.eq : Eqn (Q [fR.spec]) b8.spec .none := eqn Tryz.f110
theorem mB.eq : Eqn (Q [kJ.spec, iQ.spec, fB.spec, dA.spec]) mB.spec .none := eqn Tryz.f275
theorem lb.eq : Eqn (Q [dw.spec, eW.spec]) lb.spec .none := eqn Tryz.f324
theorem fa.eq : Eqn (Q [fI.spec, fZ.spec]) fa.spec .none := eqn Tryz.f250
theorem eS.eq : Eqn (Q [fK.spec]) eS.spec .none := eqn Tryz.f403
theorem gN.eq : Eqn (Q [pP 96, ae.spec]) gN.spec .none := eqn Tryz.f222
theorem fZ.eq : Eqn (Q [fF.spec]) fZ.spec .none := eqn Tryz.f197
theorem iw.eq : Eqn (Q [ig.spec]) iw.spec .none := eqn Tryz.f177
theorem fX.eq : Eqn (Q [eU.spec]) fX.spec .none := eqn Tryz.f278
theorem gK.eq : Eqn (Q [bn.spec]) gK.spec .none := eqn Tryz.f415
theorem gQ.eq : Eqn (Q []) gQ.spec .none := eqn Tryz.f348
theorem ea.eq : Eqn (Q []) ea.spec .none := eqn Tryz.f361
theorem jf.eq : Eqn (Q []) jf.spec .none := eqn Tryz.f134
theorem jY.eq : Eqn (Q []) jY.spec .none := eqn Tryz.f265
end Go.Mach
