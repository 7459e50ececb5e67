/-
  Proved here: the law renlaw12.EvalOnce returns true for every input of the stated bulk and leaves its arguments as they were; no further condition.
  By an AI agent; no person has read it.
-/
import Derived.Test.YtfmfdkbpemiocaaGreatDoorQaf
import Derived.KernelRfl
import Derived.Test.YtfmfdkbpemiocaaGreatDoorProg
set_option linter.all false
set_option linter.deprecated false
set_option linter.unusedVariables false
set_option maxRecDepth 100000
namespace Go.Mach
open Go.Proofs
theorem eval_run_loop.eq(G:af):Eqn (Q (eu G++L10)) (eval_run_loop.g.sp 155 λx=>R.eval_run_loop G x.1 x.2.1 x.2.2.1 x.2.2.2) (zA 0x2d814208432238fc13820121917332218fc1382002421100064c14ac101421212981184322591a2582012981321491a25820024322181421843228cd96213830112581733228cd962138305210231420843223899138201271733221899138200243111121):=eqn Tryz.f155
def parse_parser_declares.ann:Ann:=(.r (.r (.two (.piece [(.nrm,⟨[],rg 6 5,[(0,aK),(3,(.box rG))],[2]⟩)] .none) (.l (.loop ⟨[],[4]++rg 11 27,[(0,aK),(3,(.box rG))],[5]⟩ [(.ret,⟨[],[4]++rg 11 27,[(0,aK),(1,(.box rG))],[3,5]⟩)] (.l (.r (.two (.piece [(.nrm,⟨[],rg 14 9,[(0,aK),(12,(.box rG))],[11]⟩)] .none) (.r (.l (.piece [(.nrm,⟨[(36,vb)],rg 29 7,[(0,aK)],[]⟩)] .none)))))))))))
theorem parse_parser_declares.eq_(g_parse_made:type_of% R.bI)(g_parse_named:type_of% R.bN)(g_parse_parser_fine:type_of% R.cE)(g_parse_parser_name:type_of% R.bU)(g_parse_parser_need:type_of% R.ai)(g_parse_parser_take:type_of% R.aO)(G:bl):Eqn (Q [(bI.g.sp 98 λx=>g_parse_made x.1 x.2),(bN.g.sp 173 λx=>g_parse_named x.1 x.2.1 x.2.2),parse_parser_assign.spec G,(cE.g.sp 175 λx=>g_parse_parser_fine x),(bU.g.sp 142 λx=>g_parse_parser_name x),(ai.g.sp 172 λx=>g_parse_parser_need x.1 x.2),(aO.g.sp 141 λx=>g_parse_parser_take x.1 x.2)]) (parse_parser_declares.g.sp 139 λx=>Res.given (parse_parser_declares.g.i x) (Res.bind (g_parse_made 5 ([]:List (aQ aE.den))) λr1=>Res.given (bI.g.o r1) (Res.bind (α:=(aK.den×(aE.den×(List (aQ aE.den))))) (Res.bind (g_parse_parser_take x [99,111,110,115,116]) λr2=>Res.given (aO.g.o r2) (Res.br r2.1 (Res.bind (g_parse_made 6 ([]:List (aQ aE.den))) λr3=>Res.given (bI.g.o r3) (Res.ok ((r2.2,r3)))) (Res.bind (g_parse_parser_need r2.2 [108,101,116]) λr4=>Res.given (ai.g.o r4) (Res.ok ((r4.2,r1)))))) λx5=>Res.bind (Res.loop (α:=(aK.den×(aE.den×(List (aQ aE.den))))) (β:=(aK.den×(aE.den×(List (aQ aE.den))))) (λx6=>Res.bind (g_parse_parser_name x6.1) λr7=>Res.given (bU.g.o r7) (Res.bind (g_parse_named 7 r7.1 ([]:List (aQ aE.den))) λr8=>Res.given (bN.g.o r8) (Res.bind (α:=(aK.den×(aE.den×(List (aQ aE.den))))) (Res.bind (g_parse_parser_take r7.2 [61]) λr9=>Res.given (aO.g.o r9) (Res.br r9.1 (Res.bind (G.parse_parser_assign r9.2) λr10=>Res.given (parse_parser_assign.g.o r10) (Res.aZ (decide ((r8.2.length+[(aQ.mk (aQ.lab r10.1) (aQ.kids r10.1))].length)*144<=2^47)) (Res.ok ((r10.2,(r8.1,(r8.2++[(aQ.mk (aQ.lab r10.1) (aQ.kids r10.1))]))))))) (Res.ok ((r9.2,r8))))) λx11=>Res.aZ (decide ((x6.2.2.length+[(aQ.mk x11.2.1 x11.2.2)].length)*144<=2^47)) (Res.bind (α:=(Bool×aK.den)) (Res.bind (g_parse_parser_fine x11.1) λr12=>Res.br (!r12) (Res.ok ((true,x11.1))) (Res.bind (g_parse_parser_take x11.1 [44]) λr13=>Res.given (aO.g.o r13) (Res.ok (((!r13.1),r13.2))))) λx14=>Res.br x14.1 (Res.ok (.done ((x14.2,(x6.2.1,(x6.2.2++[(aQ.mk x11.2.1 x11.2.2)])))))) (Res.ok (.next ((x14.2,(x6.2.1,(x6.2.2++[(aQ.mk x11.2.1 x11.2.2)])))))))))) fuel x5) λx15=>Res.ok (((aQ.mk x15.2.1 x15.2.2),x15.1))))) parse_parser_declares.ann:=eqn Tryz.f139
theorem parse_parser_declares.eq(G:bl):Eqn (Q [bI.spec,bN.spec,parse_parser_assign.spec G,cE.spec,bU.spec,ai.spec,aO.spec]) (parse_parser_declares.g.sp 139 λx=>R.parse_parser_declares G x) parse_parser_declares.ann:=parse_parser_declares.eq_ R.bI R.bN R.cE R.bU R.ai R.aO G
theorem cA.eq:Eqn (Q L7) cA.spec (zA 0x171287119991582051171287109a9158206a1521200021a140a101432111221121144322db3832228300811211321db3832221084022211321cb4832221084029152121):=eqn Tryz.f62
theorem ia.eq:Eqn (Q L3) ia.spec (zA 0x184d143d101421122000087a103810142112211000969318245110009693415302200f8793415301a15213000382914d9101423111):=eqn Tryz.f51
theorem parse_parser_head.eq(G:bl):Eqn (Q (ib G++L5)) (parse_parser_head.g.sp 379 λx=>R.parse_parser_head G x) (zA 0x38460271815202103846027681451522111):=eqn Tryz.f379
theorem eval_run_builds.eq(G:af):Eqn (Q (eu G++L10)) (eval_run_builds.g.sp 283 λx=>R.eval_run_builds G x.1 x.2.1 x.2.2) (zA 0x50914f81014210005681458101432121):=eqn Tryz.f283
theorem eval_run_try.eq(G:af):Eqn (Q (eu G++L10)) (eval_run_try.g.sp 157 λx=>R.eval_run_try G x.1 x.2.1 x.2.2) (zA 0x886a146b10142200073914a91014212711818322590811820014311):=eqn Tryz.f157
theorem parse_parser_both.eq(G:bl):Eqn (Q (ib G++L5)) (parse_parser_both.g.sp 266 λx=>R.parse_parser_both G x.1 x.2) (zA 0x381602761021038160276105221):=eqn Tryz.f266
theorem dh.eq:Eqn (Q L3) dh.spec (zA 0x4821e96208123420082100e964612302200d97408208802252121):=eqn Tryz.f267
theorem dz.eq:Eqn (Q L6) dz.spec (zA 0x13158360238610211315836023861052211):=eqn Tryz.f69
theorem aw.eq:Eqn (Q L2) aw.spec (zA 0x38316205110038325202200284252018152121):=eqn Tryz.f237
theorem dE.eq:Eqn (Q L7) dE.spec (zA 0x888140910142122121):=eqn Tryz.f358
theorem dX.eq:Eqn (Q L0) dX.spec (zA 0x580816245110058082520220048182520681521211):=eqn Tryz.f218
theorem jP.eq:Eqn (Q L1) jP.spec (zA 0x8315243110008312133022007412133008152121):=eqn Tryz.f447
theorem jO.eq:Eqn (Q L5) jO.spec (zA 0x591814e91014221):=eqn Tryz.f56
theorem mA.eq:Eqn (Q L0) mA.spec (zA 0x71b140b101421000aa6145101432121):=eqn Tryz.f171
theorem eval_run_choice.eq(G:af):Eqn (Q (eu G++L10)) (eval_run_choice.g.sp 153 λx=>R.eval_run_choice G x.1 x.2.1 x.2.2) .none:=eqn Tryz.f153
theorem dK.eq:Eqn (Q L1) dK.spec (zA 0xe8d8143a101422111):=eqn Tryz.f424
theorem cZ.eq:Eqn (Q L11) cZ.spec .none:=eqn Tryz.f41
theorem iG.eq:Eqn (Q L0) iG.spec (zA 0x486145101422121):=eqn Tryz.f312
theorem c7.eq:Eqn (Q L2) c7.spec .none:=eqn Tryz.f114
theorem lM.eq:Eqn (Q L1) lM.spec .none:=eqn Tryz.f349
theorem db.eq:Eqn (Q L9) db.spec .none:=eqn Tryz.f275
theorem eX.eq:Eqn (Q L14) eX.spec .none:=eqn Tryz.f24
theorem gM.eq:Eqn (Q L1) gM.spec .none:=eqn Tryz.f247
theorem bm.eq:Eqn (Q L4) bm.spec .none:=eqn Tryz.f61
theorem cm.eq:Eqn (Q L0) cm.spec .none:=eqn Tryz.f406
theorem bM.eq:Eqn (Q L0) bM.spec .none:=eqn Tryz.f180
theorem fI.eq:Eqn (Q (fg.spec::L1)) fI.spec .none:=eqn Tryz.f235
theorem cL.eq:Eqn (Q L0) cL.spec .none:=eqn Tryz.f426
theorem gJ.eq:Eqn (Q L0) gJ.spec .none:=eqn Tryz.f203
theorem jt.eq:Eqn (Q L0) jt.spec .none:=eqn Tryz.f133
theorem ed.eq:Eqn (Q L0) ed.spec .none:=eqn Tryz.f220
end Go.Mach

