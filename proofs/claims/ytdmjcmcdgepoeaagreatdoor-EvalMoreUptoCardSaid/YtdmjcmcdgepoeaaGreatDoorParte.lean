/-
  Proved here: the law renlaw12.EvalMore returns true for every input of the stated bulk and leaves its arguments as they were; no further condition.
  By an AI agent; no person has read it.
-/
import Derived.Test.YtdmjcmcdgepoeaaGreatDoorPartd
import Derived.KernelRfl
import Derived.Test.YtdmjcmcdgepoeaaGreatDoorProg
set_option linter.all false
set_option linter.deprecated false
set_option linter.unusedVariables false
set_option maxRecDepth 100000
namespace Go.Mach
open Go.Proofs
theorem aJ.eq (fu:Nat):Eqn (Q [(aJ.spec fu),cM.spec,aW.spec]) (aJ.g.sp 449 fun x=>R.aJ (fu+1) x.1 x.2.1 x.2.2.1 x.2.2.2.1 x.2.2.2.2) (.two (.r (.l (.r (.r (.two (.l (.loop ⟨[(10,vi),(11,vi)],[12]++rg 31 23,[],[]⟩ [(.ext 0,⟨[(10,vi)],[11,12]++rg 31 23,[],[]⟩)] .none)) (.l (.r (.l (.loop ⟨[(13,vi)],rg 55 22,[(0,zs0)],[]⟩ [(.ext 2,⟨[],[13]++rg 55 22,[(0,zs0)],[]⟩)] .none))))))))) (.two (.r (.l (.r (.r (.two (.l (.loop ⟨[(14,vi),(15,vi)],[16]++rg 83 24,[],[]⟩ [(.ext 4,⟨[(14,vi)],[15,16]++rg 83 24,[],[]⟩)] .none)) (.l (.r (.l (.loop ⟨[(17,vi)],rg 108 21,[(0,zs0)],[]⟩ [(.ext 6,⟨[],[17]++rg 108 21,[(0,zs0)],[]⟩)] .none))))))))) (.r (.r (.r (.two (pc [(20,vi),(21,vi)] (rg 138 9)) (.r (.two (.l (.loop ⟨[(20,vi),(21,vi)],[23]++rg 149 26,[],[]⟩ [(.ext 8,⟨[(20,vi)],[21,23]++rg 149 26,[],[]⟩)] .none)) (.r (.two (.piece [(.nrm,⟨[],rg 178 14,[(0,zs0)],[]⟩)] (.l (pc [(185,vb)] (rg 178 7)))) (.two (.piece [(.nrm,⟨[],rg 192 14,[(0,zs0)],[]⟩)] (.l (pc [(199,vb)] (rg 192 7)))) (.l (pc [(213,vb)] (rg 206 7)))))))))))))):=eqn Tryz.f449
theorem jO.eq:Eqn (Q [gj.spec]) jO.spec (.r (.l (.r (.l (.two (pc [(7,vb)] [8,9]) (.r (.two (pc [(10,vb)] (rg 11 5)) (.r (.two (pc [(17,vb)] [18,19]) (.r (.two (pc [(21,vb)] [22,23]) (.r (.r (.r (.r (.r (.r (.r (.r (.r (.r (.r (.r (.r (.two (pc [(50,vb)] [51,52]) (.r (.r (.r (.r (.r (.r (.r (.two (pc [(63,vb)] [64,65]) (.r (.two (pc [(67,vb)] [68,69,70]) (.r (.r (.r (.r (.r (.l (pc [(78,vb)] [79,80])))))))))))))))))))))))))))))))))))))))))):=eqn Tryz.f62
theorem bx.eq:Eqn (Q [cG.spec,bA.spec]) bx.spec (.r (.l (.r (.l (.loop ⟨[(25,vi)],[7,9,10,12,13,14]++rg 26 68,[(2,aG)],[0,1]⟩ [(.ext 0,⟨[],[7,9,10,12,13,14]++rg 25 69,[(2,aG)],[0,1]⟩),(.ret,⟨[(7,vi)],[9,10,12,13,14]++rg 25 69,[(2,aG),(4,zs1)],[0,1]⟩)] (.r (.r (.l (.l (.r (.r (.r (.l (.two (pc [(39,vb)] [40,41]) (.l (.r (.l (.loop ⟨[(45,vi)],[12]++rg 46 24,[(7,eW)],[6]⟩ [(.ext 3,⟨[],[12]++rg 45 25,[(7,eW)],[6]⟩)] .none)))))))))))))))))):=eqn Tryz.f109
theorem jy.eq:Eqn (Q [iJ.spec,kn.spec,jl.spec,jO.spec]) jy.spec (.r (.r (.r (.two (.l (pc [(36,vb)] (rg 25 11))) (.two (.r (.l (.loop ⟨[(40,vi)],[4,8,9,10]++rg 41 23,[],[]⟩ [(.ext 0,⟨[],[4,8,9,10]++rg 40 24,[],[]⟩),(.ret,⟨[(4,vb)],[8,9,10]++rg 40 24,[],[]⟩)] (.r (.r (.l (.l (.r (.r (.l (pc [(10,vi)] (rg 46 8)))))))))))) (.l (.l (.r (.r (.l (pc [(90,vb)] (rg 91 9)))))))))))):=eqn Tryz.f40
theorem parse_parser_head.eq (G:b8):Eqn (Q [bB.spec,parse_parser_arguments.spec G,parse_parser_head.spec G,parse_parser_member.spec G,bW.spec,parse_parser_primary.spec G,aM.spec]) (parse_parser_head.g.sp 390 fun x=>R.parse_parser_head G x) (.r (.r (.r (.l (.l (.loop ⟨[(4,vb)],rg 13 7,[(0,aL),(4,(.box zs2))],[]⟩ [(.ext 0,⟨[],[4]++rg 13 7,[(0,aL),(4,(.box zs2))],[]⟩)] .none)))))):=eqn Tryz.f390
theorem eval_run_builds.eq (G:au):Eqn (Q [cU.spec,bY.spec,aT.spec,eval_run_does.spec G,aK.spec,dA.spec,aE.spec,dU.spec,c7.spec,jP.spec]) (eval_run_builds.g.sp 302 fun x=>R.eval_run_builds G x.1 x.2.1 x.2.2) (.r (.l (.r (.l (.two (pc [(12,vb)] (rg 13 5)) (.r (.l (pc [(22,vb)] (rg 23 5))))))))):=eqn Tryz.f302
theorem eval_run_called.eq (G:au):Eqn (Q [bj.spec,eval_run_expression.spec G,dP.spec,eval_run_parts.spec G]) (eval_run_called.g.sp 300 fun x=>R.eval_run_called G x.1 x.2.1 x.2.2) (.r (.r (.two (.l (pc [(30,vb)] (rg 23 7))) (.r (.r (.l (.piece [(.nrm,⟨[(14,vi)],rg 54 8,[(2,aG),(15,zs1)],[11,12]⟩)] .none))))))):=eqn Tryz.f300
def fU.ann:Ann:=(.r (.l (.r (.l (.two (pc [(6,vb)] (rg 7 5)) (.r (.l (pc [(15,vb)] (rg 16 4)))))))))
theorem fU.eq_ (g_lex_Name:type_of% R.j8) (g_lex_Run:type_of% R.kz) (g_slices_Contains_string:type_of% R.aQ):Eqn ({ P:=Tryz.prog,specs:=[(j8.g.sp 99 fun x=>g_lex_Name x),(kz.g.sp 100 fun x=>g_lex_Run x),(aQ.g.sp 102 fun x=>g_slices_Contains_string x.1 x.2)],ety:=pU Tryz.prog owned,inls:=[AD 101 (pZ.env Tryz.prog) Tryz.f101 .none] }:Env) (fU.g.sp 61 fun x=>Res.given (fU.g.i x) (Res.bind (α:=Bool) (Res.br (x.1 == 7) (Res.ok ((x.1 == 7))) (Res.br (x.1 == 18) (Res.ok ((x.1 == 18))) (Res.br (x.1 == 19) (Res.ok ((x.1 == 19))) (Res.br (x.1 == 20) (Res.ok ((x.1 == 20))) (Res.ok ((x.1 == 33))))))) fun x1=>Res.br x1 (Res.bind (g_lex_Name x.2.1) fun r2=>Res.ok (r2)) (Res.bind (α:=Bool) (Res.br (x.1 == 12) (Res.ok ((x.1 == 12))) (Res.br (x.1 == 13) (Res.ok ((x.1 == 13))) (Res.br (x.1 == 17) (Res.ok ((x.1 == 17))) (Res.ok ((x.1 == 41)))))) fun x3=>Res.br x3 (Res.br (x.2.1 == ([]:List UInt8)) (Res.ok (true)) (Res.bind (g_lex_Name x.2.1) fun r4=>Res.ok (r4))) (Res.br (x.1 == 52) (Res.bind (g_lex_Run x.2.1) fun r5=>Res.ok (r5)) (Res.br (x.1 == 43) (Res.bind (g_slices_Contains_string [[45],[43],[33],[126],[116,121,112,101,111,102],[118,111,105,100]] x.2.1) fun r6=>Res.ok (r6)) (Res.br (x.1 == 44) (Res.br (x.1 == 44) (Res.bind (g_slices_Contains_string [[43,43],[45,45]] x.2.1) fun r7=>Res.ok (r7)) (Res.br (x.1 == 46) (Res.bind (g_slices_Contains_string [[43],[45],[42],[47],[37],[38],[124],[94],[60,60],[62,62],[62,62,62],[60],[62],[60,61],[62,61],[61,61],[33,61],[61,61,61],[33,61,61],[105,110]] x.2.1) fun r8=>Res.ok (r8)) (Res.br (x.1 == 47) (Res.bind (g_slices_Contains_string [[38,38],[124,124],[63,63]] x.2.1) fun r9=>Res.ok (r9)) (Res.br (x.1 == 49) (Res.bind (g_slices_Contains_string [[61],[43,61],[45,61],[42,61],[47,61],[37,61],[38,61],[124,61],[94,61],[60,60,61],[62,62,61],[62,62,62,61]] x.2.1) fun r10=>Res.ok (r10)) (Res.ok ((x.2.1 == ([]:List UInt8)))))))) (Res.br (x.1 == 45) (Res.bind (g_slices_Contains_string [[43,43],[45,45]] x.2.1) fun r11=>Res.ok (r11)) (Res.br (x.1 == 46) (Res.bind (g_slices_Contains_string [[43],[45],[42],[47],[37],[38],[124],[94],[60,60],[62,62],[62,62,62],[60],[62],[60,61],[62,61],[61,61],[33,61],[61,61,61],[33,61,61],[105,110]] x.2.1) fun r12=>Res.ok (r12)) (Res.br (x.1 == 47) (Res.bind (g_slices_Contains_string [[38,38],[124,124],[63,63]] x.2.1) fun r13=>Res.ok (r13)) (Res.br (x.1 == 49) (Res.bind (g_slices_Contains_string [[61],[43,61],[45,61],[42,61],[47,61],[37,61],[38,61],[124,61],[94,61],[60,60,61],[62,62,61],[62,62,62,61]] x.2.1) fun r14=>Res.ok (r14)) (Res.ok ((x.2.1 == ([]:List UInt8)))))))))))))) fU.ann:=eqn Tryz.f61
theorem fU.eq:Eqn ({ P:=Tryz.prog,specs:=[j8.spec,kz.spec,aQ.spec],ety:=pU Tryz.prog owned,inls:=[AD 101 (pZ.env Tryz.prog) Tryz.f101 .none] }:Env) fU.spec fU.ann:=fU.eq_ R.j8 R.kz R.aQ
theorem dB.eq:Eqn (Q [b9.spec,cx.spec,aT.spec,aE.spec]) dB.spec (.r (.r (.l (.piece [(.nrm,⟨[],[9,10]++rg 12 10++[27,28],[(5,zs1)],[]⟩),(.ret,⟨[(7,vi)],[9,10]++rg 12 15,[(2,aG),(4,zs1)],[0,1]⟩)] .none)))):=eqn Tryz.f371
theorem mJ.eq:Eqn (Q [eH.spec,eM.spec,eg.spec,ch.spec,eP.spec,fL.spec,gG.spec,fW.spec]) mJ.spec (.r (.r (.l (.l (.two (pc [(10,vb)] (rg 11 14)) (.r (.l (pc [(26,vb)] (rg 27 6))))))))):=eqn Tryz.f358
theorem gE.eq:Eqn (Q [gH.spec,iy.spec,lV.spec]) gE.spec (.r (.r (.r (.l (.r (.l (.loop ⟨[(14,vi)],[2,3,5]++rg 15 8,[],[]⟩ [(.ext 0,⟨[],[2,3,5]++rg 14 9,[],[]⟩),(.ret,⟨[(2,vi),(3,vi)],[5]++rg 14 9,[],[]⟩)] .none))))))):=eqn Tryz.f26
theorem lD.eq:Eqn (Q [ir.spec]) lD.spec (.r (.r (.r (.l (.r (.l (.loop ⟨[(5,(false,zs4)),(16,vi)],[6,7]++rg 17 12,[],[]⟩ [(.ext 0,⟨[(5,(false,zs4))],[6,7]++rg 16 13,[],[]⟩)] .none))))))):=eqn Tryz.f52
theorem hJ.eq:Eqn (Q [j6.spec,kY.spec,fU.spec]) hJ.spec (.r (.two (.l (pc [(50,vb)] (rg 3 47))) (.l (.r (.l (.l (pc [(53,vb)] [54,55]))))))):=eqn Tryz.f39
theorem iL.eq:Eqn (Q []) iL.spec (.r (.r (.l (.r (.l (.loop ⟨[(3,vi),(4,vi)],rg 5 19,[],[]⟩ [(.ext 0,⟨[(3,vi)],rg 4 20,[],[]⟩)] (.l (.l (pc [(12,vb)] (rg 5 7)))))))))):=eqn Tryz.f24
theorem aj.eq:Eqn (Q []) aj.spec (.r (.r (.l (.r (.l (.loop ⟨[(3,(false,(.own .h))),(7,vi)],[4]++rg 8 10,[],[]⟩ [(.ext 0,⟨[(3,(false,(.own .h)))],[4]++rg 7 11,[],[]⟩)] .none)))))):=eqn Tryz.f77
theorem gC.eq:Eqn (Q [db.spec,fN.spec,cD.spec,bR.spec,fb.spec,ff.spec,dQ.spec,eh.spec]) gC.spec .none:=eqn Tryz.f422
theorem bR.eq:Eqn (Q [bt.spec,gP.spec]) bR.spec (.r (.r (.l (.r (.l (.r (.r (.l (pc [(13,vb)] [14,15]))))))))):=eqn Tryz.f19
theorem bo.eq:Eqn (Q [iE.spec,bP.spec,cf.spec,aY.spec,da.spec]) bo.spec .none:=eqn Tryz.f395
theorem gv.eq:Eqn (Q [fN.spec,bR.spec,fb.spec,ff.spec,dQ.spec]) gv.spec .none:=eqn Tryz.f394
theorem gm.eq:Eqn (Q [iE.spec,gp.spec,cf.spec,bn.spec]) gm.spec .none:=eqn Tryz.f415
theorem gQ.eq:Eqn (Q [dC.spec,dY.spec,lG.spec]) gQ.spec .none:=eqn Tryz.f43
theorem cW.eq:Eqn (Q [cy.spec]) cW.spec .none:=eqn Tryz.f124
theorem eL.eq:Eqn (Q [ji.spec,fK.spec]) eL.spec .none:=eqn Tryz.f28
theorem dh.eq:Eqn (Q [cT.spec]) dh.spec .none:=eqn Tryz.f381
theorem eQ.eq:Eqn (Q [js.spec,eh.spec]) eQ.spec .none:=eqn Tryz.f426
theorem gl.eq:Eqn (Q [kc.spec,jt.spec]) gl.spec .none:=eqn Tryz.f407
theorem ez.eq:Eqn (Q [cC.spec]) ez.spec .none:=eqn Tryz.f353
theorem cg.eq:Eqn (Q [cD.spec]) cg.spec .none:=eqn Tryz.f319
theorem aR.eq:Eqn (Q []) aR.spec .none:=eqn Tryz.f160
theorem fX.eq:Eqn (Q []) fX.spec .none:=eqn Tryz.f25
theorem bE.eq:Eqn (Q []) bE.spec .none:=eqn Tryz.f214
theorem jL.eq:Eqn (Q []) jL.spec .none:=eqn Tryz.f402
theorem kF.eq:Eqn (Q []) kF.spec .none:=eqn Tryz.f123
theorem lG.eq:Eqn (Q []) lG.spec .none:=eqn Tryz.f66
end Go.Mach

set_option linter.unusedVariables false
set_option maxRecDepth 100000
namespace Go.Mach
open Go.Proofs
theorem eval_run_loop.eq (G:au):Eqn (Q [iY.spec,eval_run_asked.spec G,eval_run_expression.spec G,eval_run_first.spec G,eval_run_statement.spec G,dM.spec]) (eval_run_loop.g.sp 197 fun x=>R.eval_run_loop G x.1 x.2.1 x.2.2.1 x.2.2.2) (.r (.l (.r (.r (.r (.r (.two (.piece [(.nrm,⟨[],[10]++rg 43 9,[(2,aG),(3,(.box (.frz aO)))],[6,7]⟩),(.ret,⟨[],[10]++rg 43 11,[(2,aG),(4,(.box (.seq .i (.seq .s zs3))))],[3,6,7]⟩)] .none) (.r (.l (.loop ⟨[],[10]++rg 12 6++rg 54 80,[(2,aG),(3,(.box (.frz aO)))],[12,13]⟩ [(.ret,⟨[],[10]++rg 12 6++rg 54 80,[(2,aG),(4,zs6)],[3,12,13]⟩)] (.l (.two (.piece [(.nrm,⟨[],[12,13]++rg 54 28,[(2,aG)],[16,17]⟩),(.ret,⟨[],[12,13]++rg 54 29,[(2,aG),(4,zs6)],[16,17]⟩)] (.r (.l (.r (.l (pc [(81,vb)] (rg 75 6))))))) (.r (.r (.l (.piece [(.nrm,⟨[],[10]++rg 97 9,[(2,aG),(3,(.box (.frz aO)))],[24,25]⟩),(.ret,⟨[],[10]++rg 97 11,[(2,aG),(4,(.box (.seq .i (.seq .s zs3))))],[3,24,25]⟩)] .none)))))))))))))))):=eqn Tryz.f197
def parse_parser_declares.ann:Ann:=(.r (.r (.two (.piece [(.nrm,⟨[],rg 6 5,[(0,aL),(3,(.box pB))],[2]⟩)] .none) (.l (.loop ⟨[],[4]++rg 11 27,[(0,aL),(3,(.box pB))],[5]⟩ [(.ret,⟨[],[4]++rg 11 27,[(0,aL),(1,(.box pB))],[3,5]⟩)] (.l (.r (.two (.piece [(.nrm,⟨[],rg 14 9,[(0,aL),(12,(.box pB))],[11]⟩)] .none) (.r (.l (.piece [(.nrm,⟨[(36,vb)],rg 29 7,[(0,aL)],[]⟩)] .none)))))))))))
theorem parse_parser_declares.eq_ (g_parse_made:type_of% R.bB) (g_parse_named:type_of% R.bE) (g_parse_parser_fine:type_of% R.cF) (g_parse_parser_name:type_of% R.bV) (g_parse_parser_need:type_of% R.ah) (g_parse_parser_take:type_of% R.aM) (G:b8):Eqn (Q [(bB.g.sp 159 fun x=>g_parse_made x.1 x.2),(bE.g.sp 214 fun x=>g_parse_named x.1 x.2.1 x.2.2),parse_parser_assign.spec G,(cF.g.sp 216 fun x=>g_parse_parser_fine x),(bV.g.sp 185 fun x=>g_parse_parser_name x),(ah.g.sp 213 fun x=>g_parse_parser_need x.1 x.2),(aM.g.sp 184 fun x=>g_parse_parser_take x.1 x.2)]) (parse_parser_declares.g.sp 182 fun x=>Res.given (parse_parser_declares.g.i x) (Res.bind (g_parse_made 5 ([]:List (aS aF.den))) fun r1=>Res.given (bB.g.o r1) (Res.bind (α:=(aL.den×(aF.den×(List (aS aF.den))))) (Res.bind (g_parse_parser_take x [99,111,110,115,116]) fun r2=>Res.given (aM.g.o r2) (Res.br r2.1 (Res.bind (g_parse_made 6 ([]:List (aS aF.den))) fun r3=>Res.given (bB.g.o r3) (Res.ok ((r2.2,r3)))) (Res.bind (g_parse_parser_need r2.2 [108,101,116]) fun r4=>Res.given (ah.g.o r4) (Res.ok ((r4.2,r1)))))) fun x5=>Res.bind (Res.loop (α:=(aL.den×(aF.den×(List (aS aF.den))))) (β:=(aL.den×(aF.den×(List (aS aF.den))))) (fun x6=>Res.bind (g_parse_parser_name x6.1) fun r7=>Res.given (bV.g.o r7) (Res.bind (g_parse_named 7 r7.1 ([]:List (aS aF.den))) fun r8=>Res.given (bE.g.o r8) (Res.bind (α:=(aL.den×(aF.den×(List (aS aF.den))))) (Res.bind (g_parse_parser_take r7.2 [61]) fun r9=>Res.given (aM.g.o r9) (Res.br r9.1 (Res.bind (G.parse_parser_assign r9.2) fun r10=>Res.given (parse_parser_assign.g.o r10) (Res.ai (decide ((r8.2.length+[(aS.mk (aS.lab r10.1) (aS.kids r10.1))].length)*144<=2^47)) (Res.ok ((r10.2,(r8.1,(r8.2++[(aS.mk (aS.lab r10.1) (aS.kids r10.1))]))))))) (Res.ok ((r9.2,r8))))) fun x11=>Res.ai (decide ((x6.2.2.length+[(aS.mk x11.2.1 x11.2.2)].length)*144<=2^47)) (Res.bind (α:=(Bool×aL.den)) (Res.bind (g_parse_parser_fine x11.1) fun r12=>Res.br (!r12) (Res.ok ((true,x11.1))) (Res.bind (g_parse_parser_take x11.1 [44]) fun r13=>Res.given (aM.g.o r13) (Res.ok (((!r13.1),r13.2))))) fun x14=>Res.br x14.1 (Res.ok (.done ((x14.2,(x6.2.1,(x6.2.2++[(aS.mk x11.2.1 x11.2.2)])))))) (Res.ok (.next ((x14.2,(x6.2.1,(x6.2.2++[(aS.mk x11.2.1 x11.2.2)])))))))))) fuel x5) fun x15=>Res.ok (((aS.mk x15.2.1 x15.2.2),x15.1))))) parse_parser_declares.ann:=eqn Tryz.f182
theorem parse_parser_declares.eq (G:b8):Eqn (Q [bB.spec,bE.spec,parse_parser_assign.spec G,cF.spec,bV.spec,ah.spec,aM.spec]) (parse_parser_declares.g.sp 182 fun x=>R.parse_parser_declares G x) parse_parser_declares.ann:=parse_parser_declares.eq_ R.bB R.bE R.cF R.bV R.ah R.aM G
theorem cd.eq:Eqn (Q [fO.spec,fe.spec,gW.spec]) cd.spec (.r (.r (.two (.r (.l (.loop ⟨[(1,(false,(.own .s))),(13,vi)],[3,5]++rg 14 19,[],[0]⟩ [(.ext 0,⟨[(1,(false,(.own .s)))],[3,5]++rg 13 20,[],[0]⟩)] (.r (.r (.l (.l (.r (.r (.l (.loop ⟨[(1,(false,(.own .s))),(20,vi)],[5]++rg 21 11,[],[4]⟩ [(.ext 2,⟨[(1,(false,(.own .s)))],[5]++rg 20 12,[],[4]⟩)] .none))))))))))) (.r (.l (.r (.l (.loop ⟨[(1,(false,(.own .s))),(38,vi)],[7]++rg 39 11,[],[6]⟩ [(.ext 4,⟨[(1,(false,(.own .s)))],[7]++rg 38 12,[],[6]⟩)] .none)))))))):=eqn Tryz.f340
theorem gR.eq:Eqn (Q [jb 226 (.int .u8),jb 80 (.int .u16),qG 112 224 bQ,qG 112 225 bJ,di.spec]) gR.spec (.r (.r (.two (.r (.l (.loop ⟨[(26,vi)],[3,4]++rg 27 16,[(7,(.own (.frz bQ)))],[]⟩ [(.ext 0,⟨[],[3,4]++rg 26 17,[(7,(.own (.frz bQ)))],[]⟩)] .none))) (.l (.r (.l (.loop ⟨[(46,vi)],[5,6]++rg 47 13,[(8,(.own (.frz bJ)))],[]⟩ [(.ext 2,⟨[],[5,6]++rg 46 14,[(8,(.own (.frz bJ)))],[]⟩)] .none))))))):=eqn Tryz.f188
theorem eval_run_operation.eq (G:au):Eqn (Q [fp.spec,eval_run_arguments.spec G,eval_run_assign.spec G,eval_run_binary.spec G,eval_run_callee.spec G,eval_run_expression.spec G,eval_run_fresh.spec G,eval_run_logic.spec G,eval_run_property.spec G,eval_run_step.spec G,eval_run_unary.spec G]) (eval_run_operation.g.sp 261 fun x=>R.eval_run_operation G x.1 x.2.1 x.2.2.1 x.2.2.2) (.r (.r (.l (.r (.l (.r (.r (.l (pc [(33,vb)] [34,35]))))))))):=eqn Tryz.f261
theorem parse_parser_calls.eq (G:b8):Eqn (Q [bB.spec,parse_parser_arguments.spec G,parse_parser_head.spec G,parse_parser_member.spec G,bW.spec]) (parse_parser_calls.g.sp 344 fun x=>R.parse_parser_calls G x) (.r (.l (.r (.r (.l (.l (.loop ⟨[],[4,5]++rg 8 17,[(0,aL),(3,(.box zs2))],[]⟩ [(.ext 0,⟨[],[4,5]++rg 8 17,[(0,aL),(3,(.box zs2))],[]⟩)] .none))))))):=eqn Tryz.f344
theorem eval_run_try.eq (G:au):Eqn (Q [eval_run_catch.spec G,eval_run_statement.spec G]) (eval_run_try.g.sp 199 fun x=>R.eval_run_try G x.1 x.2.1 x.2.2) (.r (.r (.two (.piece [(.nrm,⟨[],[8]++rg 16 29,[(2,aG),(9,zs6)],[6,7]⟩)] (.r (.l (pc [(33,vb)] (rg 26 7))))) (.l (.l (pc [(61,vb)] (rg 45 16))))))):=eqn Tryz.f199
theorem parse_parser_both.eq (G:b8):Eqn (Q [bE.spec,parse_parser_level.spec G,aM.spec]) (parse_parser_both.g.sp 285 fun x=>R.parse_parser_both G x.1 x.2) (.r (.l (.l (.loop ⟨[],rg 5 7,[(0,aL),(1,(.box zs2))],[]⟩ [(.ext 0,⟨[],rg 5 7,[(0,aL),(1,(.box zs2))],[]⟩)] .none)))):=eqn Tryz.f285
theorem dE.eq:Eqn (Q [av.spec,cX.spec,di.spec]) dE.spec (.r (.l (.r (.l (.loop ⟨[(1,vi),(16,vi)],rg 7 4++rg 17 37,[],[]⟩ [(.ext 0,⟨[],[1]++rg 7 4++rg 16 38,[],[]⟩),(.ret,⟨[(7,vi),(8,vb)],[1,9,10]++rg 16 38,[(2,(.box (.frz bJ)))],[]⟩)] .none))))):=eqn Tryz.f286
theorem cw.eq:Eqn (Q [iX.spec,bO.spec,bP.spec,cB.spec,bo.spec,dH.spec,aY.spec]) cw.spec (.r (.r (.r (.r (.r (.r (.r (.l (pc [(17,(false,zs4))] (rg 84 10)))))))))):=eqn Tryz.f423
theorem jm.eq:Eqn (Q []) jm.spec (.r (.l (.r (.l (.loop ⟨[(6,vi)],[2,3]++rg 7 13,[],[]⟩ [(.ext 0,⟨[],[2,3]++rg 6 14,[],[]⟩),(.ret,⟨[(2,vb)],[3]++rg 6 14,[],[]⟩)] (.r (.r (.l (.l (.r (.l (pc [(18,vb)] (rg 9 9))))))))))))):=eqn Tryz.f115
theorem eval_run_call.eq (G:au):Eqn (Q [iA.spec,gJ.spec,eval_run_apply.spec G,eval_run_does.spec G,aE.spec,aw.spec]) (eval_run_call.g.sp 301 fun x=>R.eval_run_call G x.1 x.2.1 x.2.2.1 x.2.2.2) .none:=eqn Tryz.f301
theorem eG.eq:Eqn (Q []) eG.spec (.r (.two (pc [] [5,6,7]) (.r (.l (.r (.l (.loop ⟨[(3,vi),(4,vi)],rg 12 12,[],[]⟩ [(.ext 0,⟨[(3,vi)],[4]++rg 12 12,[],[]⟩)] .none))))))):=eqn Tryz.f41
theorem iY.eq:Eqn (Q [aQ.spec]) iY.spec (.r (.l (.l (.r (.r (.two (pc [(11,vb)] (rg 12 8)) (.r (.l (pc [(21,vb)] (rg 22 14)))))))))):=eqn Tryz.f232
theorem ca.eq:Eqn (Q [gM.spec,aR.spec,aM.spec]) ca.spec (.r (.l (.l (.piece [(.nrm,⟨[(19,vb)],rg 5 14,[(0,aL)],[]⟩)] .none)))):=eqn Tryz.f183
theorem kD.eq:Eqn (Q []) kD.spec (.r (.l (.r (.l (.two (pc [(4,vb)] (rg 5 22)) (.r (.l (pc [(27,vb)] (rg 28 27))))))))):=eqn Tryz.f142
theorem dA.eq:Eqn (Q [cU.spec,bY.spec,bP.spec,aT.spec,aK.spec,aE.spec]) dA.spec .none:=eqn Tryz.f336
theorem ak.eq:Eqn (Q [aq.spec]) ak.spec .none:=eqn Tryz.f85
theorem gJ.eq:Eqn (Q [cd.spec]) gJ.spec (.r (.r (.l (.l (pc [(13,vb)] (rg 5 8)))))):=eqn Tryz.f303
theorem kY.eq:Eqn (Q []) kY.spec (.r (.l (.r (.l (.r (.r (.l (pc [(15,vb)] (rg 16 4))))))))):=eqn Tryz.f36
theorem fD.eq:Eqn (Q [bM.spec]) fD.spec .none:=eqn Tryz.f210
theorem aQ.eq:Eqn (Q [bT.spec]) aQ.spec .none:=eqn Tryz.f102
theorem eB.eq:Eqn (Q [av.spec,gR.spec]) eB.spec .none:=eqn Tryz.f263
theorem cO.eq:Eqn (Q [cK.spec]) cO.spec .none:=eqn Tryz.f372
theorem cn.eq:Eqn (Q [j6.spec,jb 70 (.int .u32)]) cn.spec .none:=eqn Tryz.f116
theorem bS.eq:Eqn (Q [aT.spec]) bS.spec .none:=eqn Tryz.f108
theorem j8.eq:Eqn (Q [kz.spec,kD.spec]) j8.spec .none:=eqn Tryz.f99
theorem iw.eq:Eqn (Q [gI.spec]) iw.spec .none:=eqn Tryz.f23
theorem fR.eq:Eqn (Q []) fR.spec .none:=eqn Tryz.f190
theorem bl.eq:Eqn (Q []) bl.spec .none:=eqn Tryz.f164
theorem gF.eq:Eqn (Q []) gF.spec .none:=eqn Tryz.f107
theorem jS.eq:Eqn (Q []) jS.spec .none:=eqn Tryz.f82
theorem jA.eq:Eqn (Q []) jA.spec .none:=eqn Tryz.f400
theorem cD.eq:Eqn (Q []) cD.spec .none:=eqn Tryz.f20
end Go.Mach

set_option linter.unusedVariables false
set_option maxRecDepth 100000
namespace Go.Mach
open Go.Proofs
theorem gP.eq:Eqn (Q [kX.spec,ak.spec,aj.spec,gn.spec,jS.spec,iK.spec,jQ.spec]) gP.spec (.r (.two (.l (.loop ⟨[(0,(false,(.bor (.own .h))))],rg 11 11,[],[]⟩ [(.ext 0,⟨[(0,(false,(.bor (.own .h))))],rg 11 11,[],[]⟩)] (.l (.l (pc [(19,vb)] (rg 11 8)))))) (.two (.l (.loop ⟨[(0,(false,(.bor (.own .h))))],rg 22 17,[],[]⟩ [(.ext 2,⟨[(0,(false,(.bor (.own .h))))],rg 22 17,[],[]⟩)] (.l (.l (pc [(33,vb)] (rg 22 11)))))) (.r (.r (.r (.two (.piece [(.nrm,⟨[(5,(false,(.bor (.own .h))))],rg 49 9,[],[]⟩)] (.l (pc [(55,vb)] (rg 49 6)))) (.r (.l (.piece [(.nrm,⟨[(8,vb)],[9,10]++rg 62 21++[84,85],[(7,(.box (.frz aI)))],[]⟩),(.ret,⟨[(3,vb)],[9,10]++rg 62 4++rg 67 17,[(1,(.box (.frz aI)))],[]⟩)] (.l (.r (.r (.l (pc [(67,vb)] (rg 68 8)))))))))))))))):=eqn Tryz.f53
theorem parse_parser_unary.eq (G:b8):Eqn (Q [bE.spec,parse_parser_calls.spec G,cF.spec,aR.spec,parse_parser_unary.spec G,lp.spec,gF.spec]) (parse_parser_unary.g.sp 310 fun x=>R.parse_parser_unary G x) (.r (.r (.two (.piece [(.nrm,⟨[],rg 8 12++rg 33 4,[],[]⟩),(.ret,⟨[],[4]++rg 8 47++rg 57 5,[(0,aL),(1,(.box pB))],[]⟩)] (.two (pc [(15,vb)] (rg 8 7)) (.l (.l (.r (.r (.r (.l (.r (.r (.l (.piece [(.nrm,⟨[],rg 46 9,[],[]⟩)] (.l (pc [(54,vb)] (rg 46 8))))))))))))))) (.r (.l (.r (.l (pc [(78,vb)] (rg 66 12))))))))):=eqn Tryz.f310
theorem fo.eq:Eqn (Q [lC.spec,dk.spec,bm.spec,eT.spec]) fo.spec (.r (.r (.two (.l (.loop ⟨[(4,vi)],[3,5,6]++rg 19 52,[],[]⟩ [(.ext 0,⟨[],rg 3 4++rg 19 52,[],[]⟩),(.ret,⟨[(3,vi)],[4,5,6]++rg 19 52,[(0,cR),(1,zs5)],[]⟩)] (.r (.l (.l (.r (.l (.l (pc [(56,vb)] (rg 42 14)))))))))) (.r (.l (.l (pc [(101,vb)] (rg 81 20)))))))):=eqn Tryz.f180
theorem gT.eq:Eqn (Q [bt.spec,jE.spec,gS.spec,bF.spec,kM.spec,kT.spec,gz.spec,ja.spec]) gT.spec (.r (.r (.l (.r (.l (.r (.two (.l (.l (pc [(24,vb)] (rg 17 7)))) (.two (pc [(36,vb)] (rg 37 4)) (.r (.two (pc [(47,vb)] (rg 48 6)) (.r (.r (.r (.r (.r (.r (.r (.r (.r (.r (.r (.r (.r (.l (pc [(101,vb)] [102,103]))))))))))))))))))))))))):=eqn Tryz.f299
theorem gO.eq:Eqn (Q [cx.spec,bF.spec,aK.spec,aE.spec,gV.spec,bG.spec,dD.spec,aY.spec,eZ.spec,eT.spec]) gO.spec (.r (.r (.r (.r (.r (.r (.l (.l (.r (.two (.r (.l (.r (.l (pc [(86,vb)] (rg 74 12)))))) (.two (pc [(93,vb)] (rg 94 6)) (.r (.l (pc [(110,vb)] (rg 111 6))))))))))))))):=eqn Tryz.f298
theorem parse_parser_level.eq (G:b8):Eqn (Q [jY.spec,bE.spec,parse_parser_level.spec G,aR.spec,parse_parser_unary.spec G]) (parse_parser_level.g.sp 284 fun x=>R.parse_parser_level G x.1 x.2) (.r (.r (.r (.l (.l (.loop ⟨[],[6]++rg 15 23,[(0,aL),(3,(.box zs2))],[]⟩ [(.ext 0,⟨[],[6]++rg 15 23,[(0,aL),(3,(.box zs2))],[]⟩)] .none)))))):=eqn Tryz.f284
theorem fC.eq:Eqn (Q [gM.spec,bD.spec,bW.spec]) fC.spec (.r (.r (.r (.l (.piece [(.nrm,⟨[(3,vi)],[2]++rg 7 19,[],[]⟩),(.ret,⟨[(2,vb)],[3]++rg 7 19,[],[]⟩)] (.r (.l (.l (.loop ⟨[(3,vi)],[2]++rg 12 14,[],[]⟩ [(.ext 0,⟨[(3,vi)],[2]++rg 12 14,[],[]⟩),(.ret,⟨[(2,vb)],[3]++rg 12 14,[],[]⟩)] .none))))))))):=eqn Tryz.f245
theorem aW.eq:Eqn (Q [aN.spec]) aW.spec (.r (.r (.l (.l (.loop ⟨[(10,vi),(11,vi)],rg 18 32,[(0,zs0)],[]⟩ [(.ext 0,⟨[(10,vi)],[11]++rg 18 32,[(0,zs0)],[]⟩)] .none))))):=eqn Tryz.f455
theorem eval_run_step.eq (G:au):Eqn (Q [cC.spec,eR.spec,eval_run_parts.spec G,aE.spec,dd.spec,kR.spec]) (eval_run_step.g.sp 274 fun x=>R.eval_run_step G x.1 x.2.1 x.2.2) (.r (.r (.r (.r (.r (.r (.r (.l (pc [(13,vi)] [53,54,55]))))))))):=eqn Tryz.f274
theorem dO.eq:Eqn (Q [bB.spec,parse_parser_item.spec (du fuel),aR.spec]) dO.spec (.r (.r (.l (.l (.loop ⟨[],rg 5 11,[(0,aL),(3,(.box pB))],[2]⟩ [(.ext 0,⟨[],rg 5 11,[(0,aL),(3,(.box pB))],[2]⟩)] .none))))):=eqn Tryz.f140
theorem aq.eq:Eqn (Q [gh.spec]) aq.spec (.r (.l (.r (.l (.loop ⟨[(8,vi)],[4,5]++rg 9 10,[],[]⟩ [(.ext 0,⟨[],[4,5]++rg 8 11,[],[]⟩),(.ret,⟨[(4,vi)],[5]++rg 8 11,[],[]⟩)] .none))))):=eqn Tryz.f126
theorem dX.eq:Eqn (Q [jt.spec,db.spec,fN.spec,bX.spec,aE.spec,eh.spec]) dX.spec (.r (.l (.r (.l (.l (.r (.l (pc [(23,vb)] (rg 15 8))))))))):=eqn Tryz.f370
theorem cj.eq:Eqn (Q []) cj.spec (.r (.r (.l (.r (.l (.loop ⟨[(13,vi)],[4,5]++rg 14 12,[],[]⟩ [(.ext 0,⟨[],[4,5]++rg 13 13,[],[]⟩),(.ret,⟨[(4,vb)],[5]++rg 13 13,[],[]⟩)] .none)))))):=eqn Tryz.f125
theorem iv.eq:Eqn (Q [iU.spec]) iv.spec (.r (.l (.r (.l (.loop ⟨[(7,vi)],[2,4]++rg 8 7,[],[]⟩ [(.ext 0,⟨[],[2,4]++rg 7 8,[],[]⟩),(.ret,⟨[(2,vb)],[4]++rg 7 8,[],[]⟩)] .none))))):=eqn Tryz.f72
theorem i6.eq:Eqn (Q [eJ.spec,eX.spec,al.spec]) i6.spec (.r (.l (.l (pc [(37,vb)] (rg 8 29))))):=eqn Tryz.f92
theorem lC.eq:Eqn (Q []) lC.spec (.r (.l (.r (.l (.two (pc [(4,vb)] (rg 5 50)) (.r (.l (pc [(55,vb)] (rg 56 7))))))))):=eqn Tryz.f212
theorem eval_run_choice.eq (G:au):Eqn (Q [eval_run_asked.spec G,eval_run_statement.spec G]) (eval_run_choice.g.sp 195 fun x=>R.eval_run_choice G x.1 x.2.1 x.2.2) .none:=eqn Tryz.f195
theorem da.eq:Eqn (Q [av.spec]) da.spec (.r (.r (.r (.l (.l (pc [(42,vb)] (rg 20 22))))))):=eqn Tryz.f430
theorem dC.eq:Eqn (Q [bx.spec,eval_run_list.spec (cI fuel),bS.spec]) dC.spec .none:=eqn Tryz.f67
theorem gV.eq:Eqn (Q []) gV.spec (.r (.l (.r (.l (.l (pc [(4,vb)] (rg 5 12))))))):=eqn Tryz.f325
theorem cX.eq:Eqn (Q [aa.spec]) cX.spec .none:=eqn Tryz.f165
theorem bP.eq:Eqn (Q [jb 80 (.int .u16),bl.spec]) bP.spec .none:=eqn Tryz.f378
theorem eS.eq:Eqn (Q [dx.spec,fj.spec]) eS.spec .none:=eqn Tryz.f8
theorem js.eq:Eqn (Q [eH.spec,eg.spec,iH.spec]) js.spec .none:=eqn Tryz.f408
theorem iX.eq:Eqn (Q [bO.spec,fH.spec]) iX.spec .none:=eqn Tryz.f439
theorem aw.eq:Eqn (Q [av.spec]) aw.spec .none:=eqn Tryz.f305
theorem cp.eq:Eqn (Q []) cp.spec .none:=eqn Tryz.f440
theorem eH.eq:Eqn (Q [kY.spec,eP.spec]) eH.spec .none:=eqn Tryz.f118
theorem bt.eq:Eqn (Q [lX.spec]) bt.spec .none:=eqn Tryz.f44
theorem av.eq:Eqn (Q []) av.spec .none:=eqn Tryz.f150
theorem fF.eq:Eqn (Q []) fF.spec .none:=eqn Tryz.f198
theorem gZ.eq:Eqn (Q []) gZ.spec .none:=eqn Tryz.f87
theorem jV.eq:Eqn (Q []) jV.spec .none:=eqn Tryz.f362
theorem eP.eq:Eqn (Q []) eP.spec .none:=eqn Tryz.f151
end Go.Mach

set_option linter.unusedVariables false
set_option maxRecDepth 100000
namespace Go.Mach
open Go.Proofs
theorem cG.eq:Eqn (Q [aT.spec,bS.spec,bA.spec,cQ.spec,bU.spec,aj.spec]) cG.spec (.r (.r (.r (.two (pc [(10,vb)] (rg 29 8)) (.two (.piece [(.nrm,⟨[],[11,12]++rg 37 10++rg 49 11,[(2,aG),(7,(.box (.seq .i (.seq .i (.seq (.own (.frz bQ)) (.seq (.own (.frz bJ)) (.seq .s (.seq .i (.seq .i (.seq zs3 (.seq .i (.seq .i (.seq .i (.seq .i (.own .y)))))))))))))))],[0,1]⟩),(.ret,⟨[(7,vi)],[11,12]++rg 37 12,[(2,aG),(4,(.box zs3))],[0,1]⟩)] .none) (.r (.two (.piece [(.nrm,⟨[],rg 63 13,[(7,(.box kh))],[11,12,13,14,15]⟩)] (.l (.l (pc [(63,vb)] (rg 64 5))))) (.r (.l (.l (pc [(86,vb)] (rg 82 4)))))))))))):=eqn Tryz.f148
theorem dW.eq:Eqn (Q [b9.spec,bO.spec,cZ.spec,fe.spec,gJ.spec,bc.spec,cz.spec,aK.spec,eu.spec,cu.spec,dv.spec,gV.spec,dD.spec,cA.spec,aY.spec,aQ.spec,aj.spec,eZ.spec,eT.spec]) dW.spec (.r (.r (.two (pc [(8,vs)] [25,26]) (.r (.r (.r (.l (.r (.l (.r (.two (.r (.l (.l (pc [(82,vb)] (rg 73 9))))) (.r (.r (.r (.r (.r (.r (.l (pc [(125,vb)] [126,127]))))))))))))))))))):=eqn Tryz.f343
theorem eval_run_unary.eq (G:au):Eqn (Q [b9.spec,bj.spec,eval_run_expression.spec G,dF.spec,bX.spec,ey.spec,jT.spec,aj.spec]) (eval_run_unary.g.sp 273 fun x=>R.eval_run_unary G x.1 x.2.1 x.2.2.1 x.2.2.2) (.r (.r (.r (.r (.l (.piece [(.nrm,⟨[(13,vi)],[14]++rg 37 14++rg 52 22,[(2,aG),(5,zs1)],[0,1]⟩),(.ret,⟨[(9,vi)],[14]++rg 37 15,[(2,aG),(4,(.box zs3))],[0,1]⟩)] .none)))))):=eqn Tryz.f273
theorem jE.eq:Eqn (Q [jn.spec,bt.spec,bR.spec,gS.spec,gB.spec,jV.spec,iN.spec]) jE.spec (.r (.r (.two (.l (.r (.r (.l (pc [(21,vb)] (rg 22 6)))))) (.r (.two (.piece [(.nrm,⟨[],rg 38 7,[(0,zs1),(1,zs1)],[]⟩)] .none) (.l (.l (.r (.r (.two (pc [(54,vb)] (rg 55 8)) (.r (.l (pc [(68,vb)] (rg 69 8)))))))))))))):=eqn Tryz.f332
theorem eC.eq:Eqn (Q [jb 80 (.int .u16),av.spec,aU.spec,eZ.spec]) eC.spec (.r (.r (.r (.l (.r (.l (.loop ⟨[(5,(false,zs0)),(6,(false,zs0)),(25,vi)],rg 8 4++rg 26 21,[],[]⟩ [(.ext 0,⟨[(5,(false,zs0)),(6,(false,zs0))],rg 8 4++rg 25 22,[],[]⟩)] .none))))))):=eqn Tryz.f411
theorem eval_run_block.eq (G:au):Eqn (Q [fI.spec,bx.spec,eval_run_list.spec G,bS.spec]) (eval_run_block.g.sp 193 fun x=>R.eval_run_block G x.1 x.2.1 x.2.2) (.r (.l (.piece [(.nrm,⟨[],rg 7 21++rg 30 11,[(2,aG),(3,(.box (.frz aO)))],[0,1]⟩),(.ret,⟨[],rg 7 37,[(2,aG),(4,zs6)],[0,1,3]⟩)] .none))):=eqn Tryz.f193
theorem ev.eq:Eqn (Q [fT.spec,bc.spec,aK.spec,bG.spec,aw.spec,bU.spec]) ev.spec (.r (.two (.l (pc [(22,vb)] (rg 10 12))) (.l (.r (.l (.loop ⟨[(29,vi)],[9]++rg 30 20,[(1,eW)],[0]⟩ [(.ext 0,⟨[],[9]++rg 29 21,[(1,eW)],[0]⟩)] .none)))))):=eqn Tryz.f367
theorem eZ.eq:Eqn (Q [gZ.spec]) eZ.spec (.r (.two (.l (pc [(25,vb)] (rg 7 18))) (.r (.l (.r (.l (.loop ⟨[(4,vi),(28,vi)],[2,3,6]++rg 29 13,[],[]⟩ [(.ext 0,⟨[(4,vi)],[2,3,6]++rg 28 14,[],[]⟩),(.ret,⟨[(2,vi),(3,vb)],[4,6]++rg 28 14,[],[]⟩)] .none))))))):=eqn Tryz.f323
theorem eI.eq:Eqn (Q [bR.spec,b9.spec,bO.spec,eQ.spec,bP.spec,aE.spec,gv.spec,aj.spec]) eI.spec (.r (.r (.r (.r (.r (.l (.piece [(.nrm,⟨[],rg 47 4,[(8,(.box (.frz aI)))],[]⟩)] .none))))))):=eqn Tryz.f420
theorem ay.eq:Eqn (Q [gg.spec]) ay.spec (.r (.l (.r (.l (.loop ⟨[(8,vi)],[4,5]++rg 9 10,[],[]⟩ [(.ext 0,⟨[],[4,5]++rg 8 11,[],[]⟩),(.ret,⟨[(4,vi)],[5]++rg 8 11,[],[]⟩)] .none))))):=eqn Tryz.f155
theorem kM.eq:Eqn (Q [cD.spec,lN.spec,ez.spec]) kM.spec (.r (.r (.two (.l (.r (.r (.l (pc [(24,vb)] (rg 25 7)))))) (.r (.l (pc [(11,vi)] (rg 38 13))))))):=eqn Tryz.f329
theorem dL.eq:Eqn (Q []) dL.spec (.r (.r (.l (.r (.l (.loop ⟨[(13,vi)],[4,5]++rg 14 12,[],[]⟩ [(.ext 0,⟨[],[4,5]++rg 13 13,[],[]⟩),(.ret,⟨[(4,vb)],[5]++rg 13 13,[],[]⟩)] .none)))))):=eqn Tryz.f409
theorem jk.eq:Eqn (Q [ki.spec]) jk.spec (.r (.r (.l (.r (.l (.loop ⟨[(5,vi)],[4]++rg 20 25,[],[]⟩ [(.ext 0,⟨[],[4,5]++rg 20 25,[],[]⟩),(.ret,⟨[(4,vi)],[5]++rg 20 25,[],[]⟩)] .none)))))):=eqn Tryz.f349
theorem ia.eq:Eqn (Q []) ia.spec (.r (.r (.l (.r (.l (.loop ⟨[(3,(false,(.own .h))),(4,vi)],rg 5 13,[],[]⟩ [(.ext 0,⟨[(3,(false,(.own .h)))],rg 4 14,[],[]⟩)] .none)))))):=eqn Tryz.f50
theorem cr.eq:Eqn (Q [kE.spec,cD.spec,bR.spec,bc.spec,aK.spec,bX.spec,kG.spec]) cr.spec .none:=eqn Tryz.f369
theorem ja.eq:Eqn (Q [ke.spec,mQ.spec,mS.spec,mJ.spec,mO.spec,kI.spec,cg.spec,ez.spec]) ja.spec .none:=eqn Tryz.f328
theorem fV.eq:Eqn (Q []) fV.spec (.r (.l (.l (.loop ⟨[(1,vi)],rg 5 15,[],[]⟩ [(.ext 0,⟨[(1,vi)],rg 5 15,[],[]⟩)] .none)))):=eqn Tryz.f137
theorem cx.eq:Eqn (Q [kE.spec,jb 80 (.int .u16),bt.spec,lM.spec,aj.spec]) cx.spec .none:=eqn Tryz.f48
theorem bM.eq:Eqn (Q [dq.spec]) bM.spec .none:=eqn Tryz.f179
theorem lN.eq:Eqn (Q [jU.spec,gX.spec,eP.spec,cP.spec]) lN.spec .none:=eqn Tryz.f315
theorem kp.eq:Eqn (Q [cj.spec,dL.spec]) kp.spec .none:=eqn Tryz.f361
theorem dd.eq:Eqn (Q [dP.spec,dc.spec]) dd.spec .none:=eqn Tryz.f294
theorem dx.eq:Eqn (Q [ic.spec,fh.spec]) dx.spec .none:=eqn Tryz.f33
theorem fT.eq:Eqn (Q [p7 119,aj.spec]) fT.spec .none:=eqn Tryz.f272
theorem aY.eq:Eqn (Q [av.spec]) aY.spec .none:=eqn Tryz.f111
theorem cK.eq:Eqn (Q []) cK.spec .none:=eqn Tryz.f414
theorem gB.eq:Eqn (Q [cD.spec]) gB.spec .none:=eqn Tryz.f363
theorem eO.eq:Eqn (Q []) eO.spec .none:=eqn Tryz.f443
theorem fO.eq:Eqn (Q []) fO.spec .none:=eqn Tryz.f385
theorem iA.eq:Eqn (Q []) iA.spec .none:=eqn Tryz.f316
theorem jl.eq:Eqn (Q []) jl.spec .none:=eqn Tryz.f63
theorem iZ.eq:Eqn (Q []) iZ.spec .none:=eqn Tryz.f35
theorem iu.eq:Eqn (Q []) iu.spec .none:=eqn Tryz.f127
end Go.Mach

