/-
  Proved here: the law renlaw12.EvalWithin returns true for every input of the stated bulk and leaves its arguments as they were; no further condition.
  By an AI agent; no person has read it.
-/
import Derived.Test.YtdmjcmcdgepoeaaGreatDoorPartd
import Derived.KernelRfl
import Derived.Test.YtdmjcmcdgepoeaaGreatDoorProg
set_option linter.all false
set_option linter.deprecated false
set_option linter.unusedVariables false
set_option maxRecDepth 100000
namespace Go.Mach
open Go.Proofs
theorem aJ.eq (fu:Nat):Eqn (Q [(aJ.spec fu),cG.spec,aV.spec]) (aJ.g.sp 449 fun x=>R.aJ (fu+1) x.1 x.2.1 x.2.2.1 x.2.2.2.1 x.2.2.2.2) (.two (.r (.l (.r (.r (.two (.l (.loop ⟨[(10,vi),(11,vi)],[12]++rg 31 23,[],[]⟩ [(.ext 0,⟨[(10,vi)],[11,12]++rg 31 23,[],[]⟩)] .none)) (.l (.r (.l (.loop ⟨[(13,vi)],rg 55 22,[(0,zs0)],[]⟩ [(.ext 2,⟨[],[13]++rg 55 22,[(0,zs0)],[]⟩)] .none))))))))) (.two (.r (.l (.r (.r (.two (.l (.loop ⟨[(14,vi),(15,vi)],[16]++rg 83 24,[],[]⟩ [(.ext 4,⟨[(14,vi)],[15,16]++rg 83 24,[],[]⟩)] .none)) (.l (.r (.l (.loop ⟨[(17,vi)],rg 108 21,[(0,zs0)],[]⟩ [(.ext 6,⟨[],[17]++rg 108 21,[(0,zs0)],[]⟩)] .none))))))))) (.r (.r (.r (.two (.piece [(.nrm,⟨[(20,vi),(21,vi)],rg 138 9,[],[]⟩)] .none) (.r (.two (.l (.loop ⟨[(20,vi),(21,vi)],[23]++rg 149 26,[],[]⟩ [(.ext 8,⟨[(20,vi)],[21,23]++rg 149 26,[],[]⟩)] .none)) (.r (.two (.piece [(.nrm,⟨[],rg 178 14,[(0,zs0)],[]⟩)] (.l (.piece [(.nrm,⟨[(185,vb)],rg 178 7,[],[]⟩)] .none))) (.two (.piece [(.nrm,⟨[],rg 192 14,[(0,zs0)],[]⟩)] (.l (.piece [(.nrm,⟨[(199,vb)],rg 192 7,[],[]⟩)] .none))) (.l (.piece [(.nrm,⟨[(213,vb)],rg 206 7,[],[]⟩)] .none))))))))))))):=eqn Tryz.f449
theorem jR.eq:Eqn (Q [ga.spec]) jR.spec (.r (.l (.r (.l (.two (.piece [(.nrm,⟨[(7,vb)],[8,9],[],[]⟩)] .none) (.r (.two (.piece [(.nrm,⟨[(10,vb)],rg 11 5,[],[]⟩)] .none) (.r (.two (.piece [(.nrm,⟨[(17,vb)],[18,19],[],[]⟩)] .none) (.r (.two (.piece [(.nrm,⟨[(21,vb)],[22,23],[],[]⟩)] .none) (.r (.r (.r (.r (.r (.r (.r (.r (.r (.r (.r (.r (.r (.two (.piece [(.nrm,⟨[(50,vb)],[51,52],[],[]⟩)] .none) (.r (.r (.r (.r (.r (.r (.r (.two (.piece [(.nrm,⟨[(63,vb)],[64,65],[],[]⟩)] .none) (.r (.two (.piece [(.nrm,⟨[(67,vb)],[68,69,70],[],[]⟩)] .none) (.r (.r (.r (.r (.r (.l (.piece [(.nrm,⟨[(78,vb)],[79,80],[],[]⟩)] .none)))))))))))))))))))))))))))))))))))))))))):=eqn Tryz.f62
theorem cL.eq:Eqn (Q [cd.spec,bF.spec]) cL.spec (.r (.l (.r (.l (.loop ⟨[(25,vi)],[7,9,10,12,13,14]++rg 26 68,[(2,aG)],[0,1]⟩ [(.ext 0,⟨[],[7,9,10,12,13,14]++rg 25 69,[(2,aG)],[0,1]⟩),(.ret,⟨[(7,vi)],[9,10,12,13,14]++rg 25 69,[(2,aG),(4,zs1)],[0,1]⟩)] (.r (.r (.l (.l (.r (.r (.r (.l (.two (.piece [(.nrm,⟨[(39,vb)],[40,41],[],[]⟩)] .none) (.l (.r (.l (.loop ⟨[(45,vi)],[12]++rg 46 24,[(7,dz)],[6]⟩ [(.ext 3,⟨[],[12]++rg 45 25,[(7,dz)],[6]⟩)] .none)))))))))))))))))):=eqn Tryz.f109
theorem ju.eq:Eqn (Q [iF.spec,ki.spec,jo.spec,jR.spec]) ju.spec (.r (.r (.r (.two (.l (.piece [(.nrm,⟨[(36,vb)],rg 25 11,[],[]⟩)] .none)) (.two (.r (.l (.loop ⟨[(40,vi)],[4,8,9,10]++rg 41 23,[],[]⟩ [(.ext 0,⟨[],[4,8,9,10]++rg 40 24,[],[]⟩),(.ret,⟨[(4,vb)],[8,9,10]++rg 40 24,[],[]⟩)] (.r (.r (.l (.l (.r (.r (.l (.piece [(.nrm,⟨[(10,vi)],rg 46 8,[],[]⟩)] .none))))))))))) (.l (.l (.r (.r (.l (.piece [(.nrm,⟨[(90,vb)],rg 91 9,[],[]⟩)] .none))))))))))):=eqn Tryz.f40
theorem parse_parser_head.eq (G:bu):Eqn (Q [az.spec,parse_parser_arguments.spec G,parse_parser_head.spec G,parse_parser_member.spec G,bT.spec,parse_parser_primary.spec G,aM.spec]) (parse_parser_head.g.sp 390 fun x=>R.parse_parser_head G x) (.r (.r (.r (.l (.l (.loop ⟨[(4,vb)],rg 13 7,[(0,aL),(4,(.box zs2))],[]⟩ [(.ext 0,⟨[],[4]++rg 13 7,[(0,aL),(4,(.box zs2))],[]⟩)] .none)))))):=eqn Tryz.f390
theorem eval_run_builds.eq (G:au):Eqn (Q [cQ.spec,bU.spec,aT.spec,eval_run_does.spec G,aK.spec,dc.spec,aF.spec,eW.spec,dd.spec,jJ.spec]) (eval_run_builds.g.sp 302 fun x=>R.eval_run_builds G x.1 x.2.1 x.2.2) (.r (.l (.r (.l (.two (.piece [(.nrm,⟨[(12,vb)],rg 13 5,[],[]⟩)] .none) (.r (.l (.piece [(.nrm,⟨[(22,vb)],rg 23 5,[],[]⟩)] .none)))))))):=eqn Tryz.f302
theorem eval_run_called.eq (G:au):Eqn (Q [bz.spec,eval_run_expression.spec G,dw.spec,eval_run_parts.spec G]) (eval_run_called.g.sp 300 fun x=>R.eval_run_called G x.1 x.2.1 x.2.2) (.r (.r (.two (.l (.piece [(.nrm,⟨[(30,vb)],rg 23 7,[],[]⟩)] .none)) (.r (.r (.l (.piece [(.nrm,⟨[(14,vi)],rg 54 8,[(2,aG),(15,zs1)],[11,12]⟩)] .none))))))):=eqn Tryz.f300
def fG.ann:Ann:=(.r (.l (.r (.l (.two (.piece [(.nrm,⟨[(6,vb)],rg 7 5,[],[]⟩)] .none) (.r (.l (.piece [(.nrm,⟨[(15,vb)],rg 16 4,[],[]⟩)] .none))))))))
theorem fG.eq_ (g_lex_Name:type_of% R.j9) (g_lex_Run:type_of% R.kz) (g_slices_Contains_string:type_of% R.aQ):Eqn ({ P:=Tryz.prog,specs:=[(j9.g.sp 99 fun x=>g_lex_Name x),(kz.g.sp 100 fun x=>g_lex_Run x),(aQ.g.sp 102 fun x=>g_slices_Contains_string x.1 x.2)],ety:=pO Tryz.prog owned,inls:=[zT 101 (pW.env Tryz.prog) Tryz.f101 .none] }:Env) (fG.g.sp 61 fun x=>Res.given (fG.g.i x) (Res.bind (α:=Bool) (Res.br (x.1 == 7) (Res.ok ((x.1 == 7))) (Res.br (x.1 == 18) (Res.ok ((x.1 == 18))) (Res.br (x.1 == 19) (Res.ok ((x.1 == 19))) (Res.br (x.1 == 20) (Res.ok ((x.1 == 20))) (Res.ok ((x.1 == 33))))))) fun x1=>Res.br x1 (Res.bind (g_lex_Name x.2.1) fun r2=>Res.ok (r2)) (Res.bind (α:=Bool) (Res.br (x.1 == 12) (Res.ok ((x.1 == 12))) (Res.br (x.1 == 13) (Res.ok ((x.1 == 13))) (Res.br (x.1 == 17) (Res.ok ((x.1 == 17))) (Res.ok ((x.1 == 41)))))) fun x3=>Res.br x3 (Res.br (x.2.1 == ([]:List UInt8)) (Res.ok (true)) (Res.bind (g_lex_Name x.2.1) fun r4=>Res.ok (r4))) (Res.br (x.1 == 52) (Res.bind (g_lex_Run x.2.1) fun r5=>Res.ok (r5)) (Res.br (x.1 == 43) (Res.bind (g_slices_Contains_string [[45],[43],[33],[126],[116,121,112,101,111,102],[118,111,105,100]] x.2.1) fun r6=>Res.ok (r6)) (Res.br (x.1 == 44) (Res.br (x.1 == 44) (Res.bind (g_slices_Contains_string [[43,43],[45,45]] x.2.1) fun r7=>Res.ok (r7)) (Res.br (x.1 == 46) (Res.bind (g_slices_Contains_string [[43],[45],[42],[47],[37],[38],[124],[94],[60,60],[62,62],[62,62,62],[60],[62],[60,61],[62,61],[61,61],[33,61],[61,61,61],[33,61,61],[105,110]] x.2.1) fun r8=>Res.ok (r8)) (Res.br (x.1 == 47) (Res.bind (g_slices_Contains_string [[38,38],[124,124],[63,63]] x.2.1) fun r9=>Res.ok (r9)) (Res.br (x.1 == 49) (Res.bind (g_slices_Contains_string [[61],[43,61],[45,61],[42,61],[47,61],[37,61],[38,61],[124,61],[94,61],[60,60,61],[62,62,61],[62,62,62,61]] x.2.1) fun r10=>Res.ok (r10)) (Res.ok ((x.2.1 == ([]:List UInt8)))))))) (Res.br (x.1 == 45) (Res.bind (g_slices_Contains_string [[43,43],[45,45]] x.2.1) fun r11=>Res.ok (r11)) (Res.br (x.1 == 46) (Res.bind (g_slices_Contains_string [[43],[45],[42],[47],[37],[38],[124],[94],[60,60],[62,62],[62,62,62],[60],[62],[60,61],[62,61],[61,61],[33,61],[61,61,61],[33,61,61],[105,110]] x.2.1) fun r12=>Res.ok (r12)) (Res.br (x.1 == 47) (Res.bind (g_slices_Contains_string [[38,38],[124,124],[63,63]] x.2.1) fun r13=>Res.ok (r13)) (Res.br (x.1 == 49) (Res.bind (g_slices_Contains_string [[61],[43,61],[45,61],[42,61],[47,61],[37,61],[38,61],[124,61],[94,61],[60,60,61],[62,62,61],[62,62,62,61]] x.2.1) fun r14=>Res.ok (r14)) (Res.ok ((x.2.1 == ([]:List UInt8)))))))))))))) fG.ann:=eqn Tryz.f61
theorem fG.eq:Eqn ({ P:=Tryz.prog,specs:=[j9.spec,kz.spec,aQ.spec],ety:=pO Tryz.prog owned,inls:=[zT 101 (pW.env Tryz.prog) Tryz.f101 .none] }:Env) fG.spec fG.ann:=fG.eq_ R.j9 R.kz R.aQ
theorem de.eq:Eqn (Q [bw.spec,cm.spec,aT.spec,aF.spec]) de.spec (.r (.r (.l (.piece [(.nrm,⟨[],[9,10]++rg 12 10++[27,28],[(5,zs1)],[]⟩),(.ret,⟨[(7,vi)],[9,10]++rg 12 15,[(2,aG),(4,zs1)],[0,1]⟩)] .none)))):=eqn Tryz.f371
theorem mF.eq:Eqn (Q [da.spec,dk.spec,eH.spec,cb.spec,dv.spec,eh.spec,gD.spec,fO.spec]) mF.spec (.r (.r (.l (.l (.two (.piece [(.nrm,⟨[(10,vb)],rg 11 14,[],[]⟩)] .none) (.r (.l (.piece [(.nrm,⟨[(26,vb)],rg 27 6,[],[]⟩)] .none)))))))):=eqn Tryz.f358
theorem ec.eq:Eqn (Q [fp.spec,iz.spec,lU.spec]) ec.spec (.r (.r (.r (.l (.r (.l (.loop ⟨[(14,vi)],[2,3,5]++rg 15 8,[],[]⟩ [(.ext 0,⟨[],[2,3,5]++rg 14 9,[],[]⟩),(.ret,⟨[(2,vi),(3,vi)],[5]++rg 14 9,[],[]⟩)] .none))))))):=eqn Tryz.f26
theorem lD.eq:Eqn (Q [iu.spec]) lD.spec (.r (.r (.r (.l (.r (.l (.loop ⟨[(5,(false,zs4)),(16,vi)],[6,7]++rg 17 12,[],[]⟩ [(.ext 0,⟨[(5,(false,zs4))],[6,7]++rg 16 13,[],[]⟩)] .none))))))):=eqn Tryz.f52
theorem gx.eq:Eqn (Q [jy.spec,kW.spec,fG.spec]) gx.spec (.r (.two (.l (.piece [(.nrm,⟨[(50,vb)],rg 3 47,[],[]⟩)] .none)) (.l (.r (.l (.l (.piece [(.nrm,⟨[(53,vb)],[54,55],[],[]⟩)] .none))))))):=eqn Tryz.f39
theorem iK.eq:Eqn (Q []) iK.spec (.r (.r (.l (.r (.l (.loop ⟨[(3,vi),(4,vi)],rg 5 19,[],[]⟩ [(.ext 0,⟨[(3,vi)],rg 4 20,[],[]⟩)] (.l (.l (.piece [(.nrm,⟨[(12,vb)],rg 5 7,[],[]⟩)] .none))))))))):=eqn Tryz.f24
theorem ai.eq:Eqn (Q []) ai.spec (.r (.r (.l (.r (.l (.loop ⟨[(3,(false,(.own .h))),(7,vi)],[4]++rg 8 10,[],[]⟩ [(.ext 0,⟨[(3,(false,(.own .h)))],[4]++rg 7 11,[],[]⟩)] .none)))))):=eqn Tryz.f77
theorem fj.eq:Eqn (Q [dB.spec,ev.spec,b8.spec,bP.spec,fS.spec,fR.spec,c7.spec,eJ.spec]) fj.spec .none:=eqn Tryz.f422
theorem bP.eq:Eqn (Q [bl.spec,gK.spec]) bP.spec (.r (.r (.l (.r (.l (.r (.r (.l (.piece [(.nrm,⟨[(13,vb)],[14,15],[],[]⟩)] .none))))))))):=eqn Tryz.f19
theorem cS.eq:Eqn (Q [iC.spec,bX.spec,cZ.spec,aj.spec,eY.spec]) cS.spec .none:=eqn Tryz.f395
theorem gq.eq:Eqn (Q [ev.spec,bP.spec,fS.spec,fR.spec,c7.spec]) gq.spec .none:=eqn Tryz.f394
theorem gZ.eq:Eqn (Q [iC.spec,gg.spec,cZ.spec,bc.spec]) gZ.spec .none:=eqn Tryz.f415
theorem iX.eq:Eqn (Q [di.spec,eT.spec,lZ.spec]) iX.spec .none:=eqn Tryz.f43
theorem cU.eq:Eqn (Q [cn.spec]) cU.spec .none:=eqn Tryz.f124
theorem eL.eq:Eqn (Q [kp.spec,gP.spec]) eL.spec .none:=eqn Tryz.f28
theorem dF.eq:Eqn (Q [cP.spec]) dF.spec .none:=eqn Tryz.f381
theorem du.eq:Eqn (Q [jn.spec,eJ.spec]) du.spec .none:=eqn Tryz.f426
theorem gd.eq:Eqn (Q [kY.spec,jl.spec]) gd.spec .none:=eqn Tryz.f407
theorem eO.eq:Eqn (Q [bx.spec]) eO.spec .none:=eqn Tryz.f353
theorem ca.eq:Eqn (Q [b8.spec]) ca.spec .none:=eqn Tryz.f319
theorem aR.eq:Eqn (Q []) aR.spec .none:=eqn Tryz.f160
theorem fi.eq:Eqn (Q []) fi.spec .none:=eqn Tryz.f25
theorem bD.eq:Eqn (Q []) bD.spec .none:=eqn Tryz.f214
theorem iZ.eq:Eqn (Q []) iZ.spec .none:=eqn Tryz.f114
theorem dk.eq:Eqn (Q []) dk.spec .none:=eqn Tryz.f350
theorem ke.eq:Eqn (Q []) ke.spec .none:=eqn Tryz.f27
end Go.Mach

set_option linter.unusedVariables false
set_option maxRecDepth 100000
namespace Go.Mach
open Go.Proofs
theorem eval_run_loop.eq (G:au):Eqn (Q [jF.spec,eval_run_asked.spec G,eval_run_expression.spec G,eval_run_first.spec G,eval_run_statement.spec G,dt.spec]) (eval_run_loop.g.sp 197 fun x=>R.eval_run_loop G x.1 x.2.1 x.2.2.1 x.2.2.2) (.r (.l (.r (.r (.r (.r (.two (.piece [(.nrm,⟨[],[10]++rg 43 9,[(2,aG),(3,(.box (.frz aO)))],[6,7]⟩),(.ret,⟨[],[10]++rg 43 11,[(2,aG),(4,(.box (.seq .i (.seq .s zs3))))],[3,6,7]⟩)] .none) (.r (.l (.loop ⟨[],[10]++rg 12 6++rg 54 80,[(2,aG),(3,(.box (.frz aO)))],[12,13]⟩ [(.ret,⟨[],[10]++rg 12 6++rg 54 80,[(2,aG),(4,zs6)],[3,12,13]⟩)] (.l (.two (.piece [(.nrm,⟨[],[12,13]++rg 54 28,[(2,aG)],[16,17]⟩),(.ret,⟨[],[12,13]++rg 54 29,[(2,aG),(4,zs6)],[16,17]⟩)] (.r (.l (.r (.l (.piece [(.nrm,⟨[(81,vb)],rg 75 6,[],[]⟩)] .none)))))) (.r (.r (.l (.piece [(.nrm,⟨[],[10]++rg 97 9,[(2,aG),(3,(.box (.frz aO)))],[24,25]⟩),(.ret,⟨[],[10]++rg 97 11,[(2,aG),(4,(.box (.seq .i (.seq .s zs3))))],[3,24,25]⟩)] .none)))))))))))))))):=eqn Tryz.f197
def parse_parser_declares.ann:Ann:=(.r (.r (.two (.piece [(.nrm,⟨[],rg 6 5,[(0,aL),(3,(.box o7))],[2]⟩)] .none) (.l (.loop ⟨[],[4]++rg 11 27,[(0,aL),(3,(.box o7))],[5]⟩ [(.ret,⟨[],[4]++rg 11 27,[(0,aL),(1,(.box o7))],[3,5]⟩)] (.l (.r (.two (.piece [(.nrm,⟨[],rg 14 9,[(0,aL),(12,(.box o7))],[11]⟩)] .none) (.r (.l (.piece [(.nrm,⟨[(36,vb)],rg 29 7,[(0,aL)],[]⟩)] .none)))))))))))
theorem parse_parser_declares.eq_ (g_parse_made:type_of% R.az) (g_parse_named:type_of% R.bD) (g_parse_parser_fine:type_of% R.cB) (g_parse_parser_name:type_of% R.bS) (g_parse_parser_need:type_of% R.af) (g_parse_parser_take:type_of% R.aM) (G:bu):Eqn (Q [(az.g.sp 159 fun x=>g_parse_made x.1 x.2),(bD.g.sp 214 fun x=>g_parse_named x.1 x.2.1 x.2.2),parse_parser_assign.spec G,(cB.g.sp 216 fun x=>g_parse_parser_fine x),(bS.g.sp 185 fun x=>g_parse_parser_name x),(af.g.sp 213 fun x=>g_parse_parser_need x.1 x.2),(aM.g.sp 184 fun x=>g_parse_parser_take x.1 x.2)]) (parse_parser_declares.g.sp 182 fun x=>Res.given (parse_parser_declares.g.i x) (Res.bind (g_parse_made 5 ([]:List (aS aE.den))) fun r1=>Res.given (az.g.o r1) (Res.bind (α:=(aL.den×(aE.den×(List (aS aE.den))))) (Res.bind (g_parse_parser_take x [99,111,110,115,116]) fun r2=>Res.given (aM.g.o r2) (Res.br r2.1 (Res.bind (g_parse_made 6 ([]:List (aS aE.den))) fun r3=>Res.given (az.g.o r3) (Res.ok ((r2.2,r3)))) (Res.bind (g_parse_parser_need r2.2 [108,101,116]) fun r4=>Res.given (af.g.o r4) (Res.ok ((r4.2,r1)))))) fun x5=>Res.bind (Res.loop (α:=(aL.den×(aE.den×(List (aS aE.den))))) (β:=(aL.den×(aE.den×(List (aS aE.den))))) (fun x6=>Res.bind (g_parse_parser_name x6.1) fun r7=>Res.given (bS.g.o r7) (Res.bind (g_parse_named 7 r7.1 ([]:List (aS aE.den))) fun r8=>Res.given (bD.g.o r8) (Res.bind (α:=(aL.den×(aE.den×(List (aS aE.den))))) (Res.bind (g_parse_parser_take r7.2 [61]) fun r9=>Res.given (aM.g.o r9) (Res.br r9.1 (Res.bind (G.parse_parser_assign r9.2) fun r10=>Res.given (parse_parser_assign.g.o r10) (Res.ah (decide ((r8.2.length+[(aS.mk (aS.lab r10.1) (aS.kids r10.1))].length)*144<=2^47)) (Res.ok ((r10.2,(r8.1,(r8.2++[(aS.mk (aS.lab r10.1) (aS.kids r10.1))]))))))) (Res.ok ((r9.2,r8))))) fun x11=>Res.ah (decide ((x6.2.2.length+[(aS.mk x11.2.1 x11.2.2)].length)*144<=2^47)) (Res.bind (α:=(Bool×aL.den)) (Res.bind (g_parse_parser_fine x11.1) fun r12=>Res.br (!r12) (Res.ok ((true,x11.1))) (Res.bind (g_parse_parser_take x11.1 [44]) fun r13=>Res.given (aM.g.o r13) (Res.ok (((!r13.1),r13.2))))) fun x14=>Res.br x14.1 (Res.ok (.done ((x14.2,(x6.2.1,(x6.2.2++[(aS.mk x11.2.1 x11.2.2)])))))) (Res.ok (.next ((x14.2,(x6.2.1,(x6.2.2++[(aS.mk x11.2.1 x11.2.2)])))))))))) fuel x5) fun x15=>Res.ok (((aS.mk x15.2.1 x15.2.2),x15.1))))) parse_parser_declares.ann:=eqn Tryz.f182
theorem parse_parser_declares.eq (G:bu):Eqn (Q [az.spec,bD.spec,parse_parser_assign.spec G,cB.spec,bS.spec,af.spec,aM.spec]) (parse_parser_declares.g.sp 182 fun x=>R.parse_parser_declares G x) parse_parser_declares.ann:=parse_parser_declares.eq_ R.az R.bD R.cB R.bS R.af R.aM G
theorem cX.eq:Eqn (Q [ep.spec,fT.spec,gU.spec]) cX.spec (.r (.r (.two (.r (.l (.loop ⟨[(1,(false,(.own .s))),(13,vi)],[3,5]++rg 14 19,[],[0]⟩ [(.ext 0,⟨[(1,(false,(.own .s)))],[3,5]++rg 13 20,[],[0]⟩)] (.r (.r (.l (.l (.r (.r (.l (.loop ⟨[(1,(false,(.own .s))),(20,vi)],[5]++rg 21 11,[],[4]⟩ [(.ext 2,⟨[(1,(false,(.own .s)))],[5]++rg 20 12,[],[4]⟩)] .none))))))))))) (.r (.l (.r (.l (.loop ⟨[(1,(false,(.own .s))),(38,vi)],[7]++rg 39 11,[],[6]⟩ [(.ext 4,⟨[(1,(false,(.own .s)))],[7]++rg 38 12,[],[6]⟩)] .none)))))))):=eqn Tryz.f340
theorem gL.eq:Eqn (Q [jb 226 (.int .u8),jb 80 (.int .u16),qK 112 224 bO,qK 112 225 bJ,dJ.spec]) gL.spec (.r (.r (.two (.r (.l (.loop ⟨[(26,vi)],[3,4]++rg 27 16,[(7,(.own (.frz bO)))],[]⟩ [(.ext 0,⟨[],[3,4]++rg 26 17,[(7,(.own (.frz bO)))],[]⟩)] .none))) (.l (.r (.l (.loop ⟨[(46,vi)],[5,6]++rg 47 13,[(8,(.own (.frz bJ)))],[]⟩ [(.ext 2,⟨[],[5,6]++rg 46 14,[(8,(.own (.frz bJ)))],[]⟩)] .none))))))):=eqn Tryz.f188
theorem eval_run_operation.eq (G:au):Eqn (Q [fa.spec,eval_run_arguments.spec G,eval_run_assign.spec G,eval_run_binary.spec G,eval_run_callee.spec G,eval_run_expression.spec G,eval_run_fresh.spec G,eval_run_logic.spec G,eval_run_property.spec G,eval_run_step.spec G,eval_run_unary.spec G]) (eval_run_operation.g.sp 261 fun x=>R.eval_run_operation G x.1 x.2.1 x.2.2.1 x.2.2.2) (.r (.r (.l (.r (.l (.r (.r (.l (.piece [(.nrm,⟨[(33,vb)],[34,35],[],[]⟩)] .none))))))))):=eqn Tryz.f261
theorem parse_parser_calls.eq (G:bu):Eqn (Q [az.spec,parse_parser_arguments.spec G,parse_parser_head.spec G,parse_parser_member.spec G,bT.spec]) (parse_parser_calls.g.sp 344 fun x=>R.parse_parser_calls G x) (.r (.l (.r (.r (.l (.l (.loop ⟨[],[4,5]++rg 8 17,[(0,aL),(3,(.box zs2))],[]⟩ [(.ext 0,⟨[],[4,5]++rg 8 17,[(0,aL),(3,(.box zs2))],[]⟩)] .none))))))):=eqn Tryz.f344
theorem eval_run_try.eq (G:au):Eqn (Q [eval_run_catch.spec G,eval_run_statement.spec G]) (eval_run_try.g.sp 199 fun x=>R.eval_run_try G x.1 x.2.1 x.2.2) (.r (.r (.two (.piece [(.nrm,⟨[],[8]++rg 16 29,[(2,aG),(9,zs6)],[6,7]⟩)] (.r (.l (.piece [(.nrm,⟨[(33,vb)],rg 26 7,[],[]⟩)] .none)))) (.l (.l (.piece [(.nrm,⟨[(61,vb)],rg 45 16,[],[]⟩)] .none)))))):=eqn Tryz.f199
theorem parse_parser_both.eq (G:bu):Eqn (Q [bD.spec,parse_parser_level.spec G,aM.spec]) (parse_parser_both.g.sp 285 fun x=>R.parse_parser_both G x.1 x.2) (.r (.l (.l (.loop ⟨[],rg 5 7,[(0,aL),(1,(.box zs2))],[]⟩ [(.ext 0,⟨[],rg 5 7,[(0,aL),(1,(.box zs2))],[]⟩)] .none)))):=eqn Tryz.f285
theorem dZ.eq:Eqn (Q [bB.spec,cp.spec,dJ.spec]) dZ.spec (.r (.l (.r (.l (.loop ⟨[(1,vi),(16,vi)],rg 7 4++rg 17 37,[],[]⟩ [(.ext 0,⟨[],[1]++rg 7 4++rg 16 38,[],[]⟩),(.ret,⟨[(7,vi),(8,vb)],[1,9,10]++rg 16 38,[(2,(.box (.frz bJ)))],[]⟩)] .none))))):=eqn Tryz.f286
theorem dP.eq:Eqn (Q [iS.spec,bN.spec,bX.spec,cj.spec,cS.spec,ct.spec,aj.spec]) dP.spec (.r (.r (.r (.r (.r (.r (.r (.l (.piece [(.nrm,⟨[(17,(false,zs4))],rg 84 10,[],[]⟩)] .none))))))))):=eqn Tryz.f423
theorem jk.eq:Eqn (Q []) jk.spec (.r (.l (.r (.l (.loop ⟨[(6,vi)],[2,3]++rg 7 13,[],[]⟩ [(.ext 0,⟨[],[2,3]++rg 6 14,[],[]⟩),(.ret,⟨[(2,vb)],[3]++rg 6 14,[],[]⟩)] (.r (.r (.l (.l (.r (.l (.piece [(.nrm,⟨[(18,vb)],rg 9 9,[],[]⟩)] .none)))))))))))):=eqn Tryz.f115
theorem eval_run_call.eq (G:au):Eqn (Q [gz.spec,gF.spec,eval_run_apply.spec G,eval_run_does.spec G,aF.spec,ay.spec]) (eval_run_call.g.sp 301 fun x=>R.eval_run_call G x.1 x.2.1 x.2.2.1 x.2.2.2) .none:=eqn Tryz.f301
theorem dX.eq:Eqn (Q []) dX.spec (.r (.two (.piece [(.nrm,⟨[],[5,6,7],[],[]⟩)] .none) (.r (.l (.r (.l (.loop ⟨[(3,vi),(4,vi)],rg 12 12,[],[]⟩ [(.ext 0,⟨[(3,vi)],[4]++rg 12 12,[],[]⟩)] .none))))))):=eqn Tryz.f41
theorem jF.eq:Eqn (Q [aQ.spec]) jF.spec (.r (.l (.l (.r (.r (.two (.piece [(.nrm,⟨[(11,vb)],rg 12 8,[],[]⟩)] .none) (.r (.l (.piece [(.nrm,⟨[(21,vb)],rg 22 14,[],[]⟩)] .none))))))))):=eqn Tryz.f232
theorem cT.eq:Eqn (Q [gI.spec,aR.spec,aM.spec]) cT.spec (.r (.l (.l (.piece [(.nrm,⟨[(19,vb)],rg 5 14,[(0,aL)],[]⟩)] .none)))):=eqn Tryz.f183
theorem j7.eq:Eqn (Q []) j7.spec (.r (.l (.r (.l (.two (.piece [(.nrm,⟨[(4,vb)],rg 5 22,[],[]⟩)] .none) (.r (.l (.piece [(.nrm,⟨[(27,vb)],rg 28 27,[],[]⟩)] .none)))))))):=eqn Tryz.f142
theorem dc.eq:Eqn (Q [cQ.spec,bU.spec,bX.spec,aT.spec,aK.spec,aF.spec]) dc.spec .none:=eqn Tryz.f336
theorem ak.eq:Eqn (Q [aq.spec]) ak.spec .none:=eqn Tryz.f85
theorem gF.eq:Eqn (Q [cX.spec]) gF.spec (.r (.r (.l (.l (.piece [(.nrm,⟨[(13,vb)],rg 5 8,[],[]⟩)] .none))))):=eqn Tryz.f303
theorem kW.eq:Eqn (Q []) kW.spec (.r (.l (.r (.l (.r (.r (.l (.piece [(.nrm,⟨[(15,vb)],rg 16 4,[],[]⟩)] .none)))))))):=eqn Tryz.f36
theorem eU.eq:Eqn (Q [bL.spec]) eU.spec .none:=eqn Tryz.f210
theorem aQ.eq:Eqn (Q [bQ.spec]) aQ.spec .none:=eqn Tryz.f102
theorem fI.eq:Eqn (Q [bB.spec,gL.spec]) fI.spec .none:=eqn Tryz.f263
theorem cJ.eq:Eqn (Q [cE.spec]) cJ.spec .none:=eqn Tryz.f372
theorem cf.eq:Eqn (Q [jy.spec,jb 70 (.int .u32)]) cf.spec .none:=eqn Tryz.f116
theorem bk.eq:Eqn (Q [aT.spec]) bk.spec .none:=eqn Tryz.f108
theorem j9.eq:Eqn (Q [kz.spec,j7.spec]) j9.spec .none:=eqn Tryz.f99
theorem jA.eq:Eqn (Q [fx.spec]) jA.spec .none:=eqn Tryz.f23
theorem ey.eq:Eqn (Q []) ey.spec .none:=eqn Tryz.f190
theorem cA.eq:Eqn (Q []) cA.spec .none:=eqn Tryz.f164
theorem fl.eq:Eqn (Q []) fl.spec .none:=eqn Tryz.f107
theorem jV.eq:Eqn (Q []) jV.spec .none:=eqn Tryz.f402
theorem kN.eq:Eqn (Q []) kN.spec .none:=eqn Tryz.f123
theorem lZ.eq:Eqn (Q []) lZ.spec .none:=eqn Tryz.f66
end Go.Mach

set_option linter.unusedVariables false
set_option maxRecDepth 100000
namespace Go.Mach
open Go.Proofs
theorem gK.eq:Eqn (Q [kZ.spec,ak.spec,ai.spec,gf.spec,jT.spec,iG.spec,jN.spec]) gK.spec (.r (.two (.l (.loop ⟨[(0,(false,(.bor (.own .h))))],rg 11 11,[],[]⟩ [(.ext 0,⟨[(0,(false,(.bor (.own .h))))],rg 11 11,[],[]⟩)] (.l (.l (.piece [(.nrm,⟨[(19,vb)],rg 11 8,[],[]⟩)] .none))))) (.two (.l (.loop ⟨[(0,(false,(.bor (.own .h))))],rg 22 17,[],[]⟩ [(.ext 2,⟨[(0,(false,(.bor (.own .h))))],rg 22 17,[],[]⟩)] (.l (.l (.piece [(.nrm,⟨[(33,vb)],rg 22 11,[],[]⟩)] .none))))) (.r (.r (.r (.two (.piece [(.nrm,⟨[(5,(false,(.bor (.own .h))))],rg 49 9,[],[]⟩)] (.l (.piece [(.nrm,⟨[(55,vb)],rg 49 6,[],[]⟩)] .none))) (.r (.l (.piece [(.nrm,⟨[(8,vb)],[9,10]++rg 62 21++[84,85],[(7,(.box (.frz aH)))],[]⟩),(.ret,⟨[(3,vb)],[9,10]++rg 62 4++rg 67 17,[(1,(.box (.frz aH)))],[]⟩)] (.l (.r (.r (.l (.piece [(.nrm,⟨[(67,vb)],rg 68 8,[],[]⟩)] .none))))))))))))))):=eqn Tryz.f53
theorem parse_parser_unary.eq (G:bu):Eqn (Q [bD.spec,parse_parser_calls.spec G,cB.spec,aR.spec,parse_parser_unary.spec G,lj.spec,fl.spec]) (parse_parser_unary.g.sp 310 fun x=>R.parse_parser_unary G x) (.r (.r (.two (.piece [(.nrm,⟨[],rg 8 12++rg 33 4,[],[]⟩),(.ret,⟨[],[4]++rg 8 47++rg 57 5,[(0,aL),(1,(.box o7))],[]⟩)] (.two (.piece [(.nrm,⟨[(15,vb)],rg 8 7,[],[]⟩)] .none) (.l (.l (.r (.r (.r (.l (.r (.r (.l (.piece [(.nrm,⟨[],rg 46 9,[],[]⟩)] (.l (.piece [(.nrm,⟨[(54,vb)],rg 46 8,[],[]⟩)] .none)))))))))))))) (.r (.l (.r (.l (.piece [(.nrm,⟨[(78,vb)],rg 66 12,[],[]⟩)] .none)))))))):=eqn Tryz.f310
theorem fc.eq:Eqn (Q [lH.spec,dK.spec,bh.spec,eA.spec]) fc.spec (.r (.r (.two (.l (.loop ⟨[(4,vi)],[3,5,6]++rg 19 52,[],[]⟩ [(.ext 0,⟨[],rg 3 4++rg 19 52,[],[]⟩),(.ret,⟨[(3,vi)],[4,5,6]++rg 19 52,[(0,cO),(1,zs5)],[]⟩)] (.r (.l (.l (.r (.l (.l (.piece [(.nrm,⟨[(56,vb)],rg 42 14,[],[]⟩)] .none))))))))) (.r (.l (.l (.piece [(.nrm,⟨[(101,vb)],rg 81 20,[],[]⟩)] .none))))))):=eqn Tryz.f180
theorem gM.eq:Eqn (Q [bl.spec,jS.spec,gN.spec,bE.spec,kO.spec,kG.spec,gu.spec,jZ.spec]) gM.spec (.r (.r (.l (.r (.l (.r (.two (.l (.l (.piece [(.nrm,⟨[(24,vb)],rg 17 7,[],[]⟩)] .none))) (.two (.piece [(.nrm,⟨[(36,vb)],rg 37 4,[],[]⟩)] .none) (.r (.two (.piece [(.nrm,⟨[(47,vb)],rg 48 6,[],[]⟩)] .none) (.r (.r (.r (.r (.r (.r (.r (.r (.r (.r (.r (.r (.r (.l (.piece [(.nrm,⟨[(101,vb)],[102,103],[],[]⟩)] .none))))))))))))))))))))))))):=eqn Tryz.f299
theorem iW.eq:Eqn (Q [cm.spec,bE.spec,aK.spec,aF.spec,gQ.spec,bM.spec,db.spec,aj.spec,eI.spec,eA.spec]) iW.spec (.r (.r (.r (.r (.r (.r (.l (.l (.r (.two (.r (.l (.r (.l (.piece [(.nrm,⟨[(86,vb)],rg 74 12,[],[]⟩)] .none))))) (.two (.piece [(.nrm,⟨[(93,vb)],rg 94 6,[],[]⟩)] .none) (.r (.l (.piece [(.nrm,⟨[(110,vb)],rg 111 6,[],[]⟩)] .none)))))))))))))):=eqn Tryz.f298
theorem parse_parser_level.eq (G:bu):Eqn (Q [ja.spec,bD.spec,parse_parser_level.spec G,aR.spec,parse_parser_unary.spec G]) (parse_parser_level.g.sp 284 fun x=>R.parse_parser_level G x.1 x.2) (.r (.r (.r (.l (.l (.loop ⟨[],[6]++rg 15 23,[(0,aL),(3,(.box zs2))],[]⟩ [(.ext 0,⟨[],[6]++rg 15 23,[(0,aL),(3,(.box zs2))],[]⟩)] .none)))))):=eqn Tryz.f284
theorem eQ.eq:Eqn (Q [gI.spec,bC.spec,bT.spec]) eQ.spec (.r (.r (.r (.l (.piece [(.nrm,⟨[(3,vi)],[2]++rg 7 19,[],[]⟩),(.ret,⟨[(2,vb)],[3]++rg 7 19,[],[]⟩)] (.r (.l (.l (.loop ⟨[(3,vi)],[2]++rg 12 14,[],[]⟩ [(.ext 0,⟨[(3,vi)],[2]++rg 12 14,[],[]⟩),(.ret,⟨[(2,vb)],[3]++rg 12 14,[],[]⟩)] .none))))))))):=eqn Tryz.f245
theorem aV.eq:Eqn (Q [aN.spec]) aV.spec (.r (.r (.l (.l (.loop ⟨[(10,vi),(11,vi)],rg 18 32,[(0,zs0)],[]⟩ [(.ext 0,⟨[(10,vi)],[11]++rg 18 32,[(0,zs0)],[]⟩)] .none))))):=eqn Tryz.f455
theorem fB.eq:Eqn (Q [i7.spec]) fB.spec (.r (.two (.l (.piece [(.nrm,⟨[(58,vb)],rg 5 53,[],[]⟩)] .none)) (.two (.l (.piece [(.nrm,⟨[(66,vb)],rg 59 7,[],[]⟩)] .none)) (.two (.piece [(.nrm,⟨[(3,vb)],rg 95 18,[],[]⟩)] .none) (.l (.piece [(.nrm,⟨[(4,vb)],rg 113 23,[],[]⟩)] .none)))))):=eqn Tryz.f32
theorem cz.eq:Eqn (Q [az.spec,parse_parser_item.spec (dS fuel),aR.spec]) cz.spec (.r (.r (.l (.l (.loop ⟨[],rg 5 11,[(0,aL),(3,(.box o7))],[2]⟩ [(.ext 0,⟨[],rg 5 11,[(0,aL),(3,(.box o7))],[2]⟩)] .none))))):=eqn Tryz.f140
theorem aq.eq:Eqn (Q [gW.spec]) aq.spec (.r (.l (.r (.l (.loop ⟨[(8,vi)],[4,5]++rg 9 10,[],[]⟩ [(.ext 0,⟨[],[4,5]++rg 8 11,[],[]⟩),(.ret,⟨[(4,vi)],[5]++rg 8 11,[],[]⟩)] .none))))):=eqn Tryz.f126
theorem eS.eq:Eqn (Q [jl.spec,dB.spec,ev.spec,bm.spec,aF.spec,eJ.spec]) eS.spec (.r (.l (.r (.l (.l (.r (.l (.piece [(.nrm,⟨[(23,vb)],rg 15 8,[],[]⟩)] .none)))))))):=eqn Tryz.f370
theorem cc.eq:Eqn (Q []) cc.spec (.r (.r (.l (.r (.l (.loop ⟨[(13,vi)],[4,5]++rg 14 12,[],[]⟩ [(.ext 0,⟨[],[4,5]++rg 13 13,[],[]⟩),(.ret,⟨[(4,vb)],[5]++rg 13 13,[],[]⟩)] .none)))))):=eqn Tryz.f125
theorem iv.eq:Eqn (Q [iZ.spec]) iv.spec (.r (.l (.r (.l (.loop ⟨[(7,vi)],[2,4]++rg 8 7,[],[]⟩ [(.ext 0,⟨[],[2,4]++rg 7 8,[],[]⟩),(.ret,⟨[(2,vb)],[4]++rg 7 8,[],[]⟩)] .none))))):=eqn Tryz.f72
theorem jB.eq:Eqn (Q [dY.spec,eC.spec,al.spec]) jB.spec (.r (.l (.l (.piece [(.nrm,⟨[(37,vb)],rg 8 29,[],[]⟩)] .none)))):=eqn Tryz.f92
theorem lH.eq:Eqn (Q []) lH.spec (.r (.l (.r (.l (.two (.piece [(.nrm,⟨[(4,vb)],rg 5 50,[],[]⟩)] .none) (.r (.l (.piece [(.nrm,⟨[(55,vb)],rg 56 7,[],[]⟩)] .none)))))))):=eqn Tryz.f212
theorem eval_run_choice.eq (G:au):Eqn (Q [eval_run_asked.spec G,eval_run_statement.spec G]) (eval_run_choice.g.sp 195 fun x=>R.eval_run_choice G x.1 x.2.1 x.2.2) .none:=eqn Tryz.f195
theorem eY.eq:Eqn (Q [bB.spec]) eY.spec (.r (.r (.r (.l (.l (.piece [(.nrm,⟨[(42,vb)],rg 20 22,[],[]⟩)] .none)))))):=eqn Tryz.f430
theorem di.eq:Eqn (Q [cL.spec,eval_run_list.spec (cH fuel),bk.spec]) di.spec .none:=eqn Tryz.f67
theorem gQ.eq:Eqn (Q []) gQ.spec (.r (.l (.r (.l (.l (.piece [(.nrm,⟨[(4,vb)],rg 5 12,[],[]⟩)] .none)))))):=eqn Tryz.f325
theorem cp.eq:Eqn (Q [aa.spec]) cp.spec .none:=eqn Tryz.f165
theorem bX.eq:Eqn (Q [jb 80 (.int .u16),cA.spec]) bX.spec .none:=eqn Tryz.f378
theorem dH.eq:Eqn (Q [dU.spec,fW.spec]) dH.spec .none:=eqn Tryz.f8
theorem jn.eq:Eqn (Q [da.spec,eH.spec,iH.spec]) jn.spec .none:=eqn Tryz.f408
theorem iS.eq:Eqn (Q [bN.spec,ef.spec]) iS.spec .none:=eqn Tryz.f439
theorem ay.eq:Eqn (Q [bB.spec]) ay.spec .none:=eqn Tryz.f305
theorem cg.eq:Eqn (Q []) cg.spec .none:=eqn Tryz.f440
theorem da.eq:Eqn (Q [kW.spec,dv.spec]) da.spec .none:=eqn Tryz.f118
theorem bl.eq:Eqn (Q [lW.spec]) bl.spec .none:=eqn Tryz.f44
theorem bB.eq:Eqn (Q []) bB.spec .none:=eqn Tryz.f150
theorem ej.eq:Eqn (Q []) ej.spec .none:=eqn Tryz.f198
theorem jT.eq:Eqn (Q []) jT.spec .none:=eqn Tryz.f82
theorem jE.eq:Eqn (Q []) jE.spec .none:=eqn Tryz.f400
theorem b8.eq:Eqn (Q []) b8.spec .none:=eqn Tryz.f20
end Go.Mach

set_option linter.unusedVariables false
set_option maxRecDepth 100000
namespace Go.Mach
open Go.Proofs
theorem cd.eq:Eqn (Q [aT.spec,bk.spec,bF.spec,ch.spec,bj.spec,ai.spec]) cd.spec (.r (.r (.r (.two (.piece [(.nrm,⟨[(10,vb)],rg 29 8,[],[]⟩)] .none) (.two (.piece [(.nrm,⟨[],[11,12]++rg 37 10++rg 49 11,[(2,aG),(7,(.box (.seq .i (.seq .i (.seq (.own (.frz bO)) (.seq (.own (.frz bJ)) (.seq .s (.seq .i (.seq .i (.seq zs3 (.seq .i (.seq .i (.seq .i (.seq .i (.own .y)))))))))))))))],[0,1]⟩),(.ret,⟨[(7,vi)],[11,12]++rg 37 12,[(2,aG),(4,(.box zs3))],[0,1]⟩)] .none) (.r (.two (.piece [(.nrm,⟨[],rg 63 13,[(7,(.box kv))],[11,12,13,14,15]⟩)] (.l (.l (.piece [(.nrm,⟨[(63,vb)],rg 64 5,[],[]⟩)] .none)))) (.r (.l (.l (.piece [(.nrm,⟨[(86,vb)],rg 82 4,[],[]⟩)] .none))))))))))):=eqn Tryz.f148
theorem eX.eq:Eqn (Q [bw.spec,bN.spec,cW.spec,fT.spec,gF.spec,bY.spec,dh.spec,aK.spec,gB.spec,dD.spec,eo.spec,gQ.spec,db.spec,cM.spec,aj.spec,aQ.spec,ai.spec,eI.spec,eA.spec]) eX.spec (.r (.r (.two (.piece [(.nrm,⟨[(8,vs)],[25,26],[],[]⟩)] .none) (.r (.r (.r (.l (.r (.l (.r (.two (.r (.l (.l (.piece [(.nrm,⟨[(82,vb)],rg 73 9,[],[]⟩)] .none)))) (.r (.r (.r (.r (.r (.r (.l (.piece [(.nrm,⟨[(125,vb)],[126,127],[],[]⟩)] .none))))))))))))))))))):=eqn Tryz.f343
theorem eval_run_unary.eq (G:au):Eqn (Q [bw.spec,bz.spec,eval_run_expression.spec G,dW.spec,bm.spec,fy.spec,jO.spec,ai.spec]) (eval_run_unary.g.sp 273 fun x=>R.eval_run_unary G x.1 x.2.1 x.2.2.1 x.2.2.2) (.r (.r (.r (.r (.l (.piece [(.nrm,⟨[(13,vi)],[14]++rg 37 14++rg 52 22,[(2,aG),(5,zs1)],[0,1]⟩),(.ret,⟨[(9,vi)],[14]++rg 37 15,[(2,aG),(4,(.box zs3))],[0,1]⟩)] .none)))))):=eqn Tryz.f273
theorem jS.eq:Eqn (Q [js.spec,bl.spec,bP.spec,gN.spec,fh.spec,jY.spec,iN.spec]) jS.spec (.r (.r (.two (.l (.r (.r (.l (.piece [(.nrm,⟨[(21,vb)],rg 22 6,[],[]⟩)] .none))))) (.r (.two (.piece [(.nrm,⟨[],rg 38 7,[(0,zs1),(1,zs1)],[]⟩)] .none) (.l (.l (.r (.r (.two (.piece [(.nrm,⟨[(54,vb)],rg 55 8,[],[]⟩)] .none) (.r (.l (.piece [(.nrm,⟨[(68,vb)],rg 69 8,[],[]⟩)] .none))))))))))))):=eqn Tryz.f332
theorem fQ.eq:Eqn (Q [jb 80 (.int .u16),bB.spec,aU.spec,eI.spec]) fQ.spec (.r (.r (.r (.l (.r (.l (.loop ⟨[(5,(false,zs0)),(6,(false,zs0)),(25,vi)],rg 8 4++rg 26 21,[],[]⟩ [(.ext 0,⟨[(5,(false,zs0)),(6,(false,zs0))],rg 8 4++rg 25 22,[],[]⟩)] .none))))))):=eqn Tryz.f411
theorem dM.eq:Eqn (Q [ec.spec,ke.spec,ik.spec,iJ.spec,iK.spec,fi.spec,fe.spec,fA.spec,eL.spec,dH.spec,fB.spec,jA.spec]) dM.spec (.r (.r (.two (.l (.piece [(.nrm,⟨[(25,vb)],rg 13 12,[],[]⟩)] .none)) (.r (.r (.l (.l (.piece [(.nrm,⟨[(45,vb)],rg 39 6,[],[]⟩)] .none)))))))):=eqn Tryz.f4
theorem eval_run_block.eq (G:au):Eqn (Q [eg.spec,cL.spec,eval_run_list.spec G,bk.spec]) (eval_run_block.g.sp 193 fun x=>R.eval_run_block G x.1 x.2.1 x.2.2) (.r (.l (.piece [(.nrm,⟨[],rg 7 21++rg 30 11,[(2,aG),(3,(.box (.frz aO)))],[0,1]⟩),(.ret,⟨[],rg 7 37,[(2,aG),(4,zs6)],[0,1,3]⟩)] .none))):=eqn Tryz.f193
theorem gC.eq:Eqn (Q [fL.spec,bY.spec,aK.spec,bM.spec,ay.spec,bj.spec]) gC.spec (.r (.two (.l (.piece [(.nrm,⟨[(22,vb)],rg 10 12,[],[]⟩)] .none)) (.l (.r (.l (.loop ⟨[(29,vi)],[9]++rg 30 20,[(1,dz)],[0]⟩ [(.ext 0,⟨[],[9]++rg 29 21,[(1,dz)],[0]⟩)] .none)))))):=eqn Tryz.f367
theorem eval_run_step.eq (G:au):Eqn (Q [bx.spec,fU.spec,eval_run_parts.spec G,aF.spec,eP.spec,kF.spec]) (eval_run_step.g.sp 274 fun x=>R.eval_run_step G x.1 x.2.1 x.2.2) (.r (.r (.r (.r (.r (.r (.r (.l (.piece [(.nrm,⟨[(13,vi)],[53,54,55],[],[]⟩)] .none))))))))):=eqn Tryz.f274
theorem fE.eq:Eqn (Q [bP.spec,bw.spec,bN.spec,du.spec,bX.spec,aF.spec,gq.spec,ai.spec]) fE.spec (.r (.r (.r (.r (.r (.l (.piece [(.nrm,⟨[],rg 47 4,[(8,(.box (.frz aH)))],[]⟩)] .none))))))):=eqn Tryz.f420
theorem aw.eq:Eqn (Q [gX.spec]) aw.spec (.r (.l (.r (.l (.loop ⟨[(8,vi)],[4,5]++rg 9 10,[],[]⟩ [(.ext 0,⟨[],[4,5]++rg 8 11,[],[]⟩),(.ret,⟨[(4,vi)],[5]++rg 8 11,[],[]⟩)] .none))))):=eqn Tryz.f155
theorem kO.eq:Eqn (Q [b8.spec,lN.spec,eO.spec]) kO.spec (.r (.r (.two (.l (.r (.r (.l (.piece [(.nrm,⟨[(24,vb)],rg 25 7,[],[]⟩)] .none))))) (.r (.l (.piece [(.nrm,⟨[(11,vi)],rg 38 13,[],[]⟩)] .none)))))):=eqn Tryz.f329
theorem cx.eq:Eqn (Q []) cx.spec (.r (.r (.l (.r (.l (.loop ⟨[(13,vi)],[4,5]++rg 14 12,[],[]⟩ [(.ext 0,⟨[],[4,5]++rg 13 13,[],[]⟩),(.ret,⟨[(4,vb)],[5]++rg 13 13,[],[]⟩)] .none)))))):=eqn Tryz.f409
theorem jm.eq:Eqn (Q [kc.spec]) jm.spec (.r (.r (.l (.r (.l (.loop ⟨[(5,vi)],[4]++rg 20 25,[],[]⟩ [(.ext 0,⟨[],[4,5]++rg 20 25,[],[]⟩),(.ret,⟨[(4,vi)],[5]++rg 20 25,[],[]⟩)] .none)))))):=eqn Tryz.f349
theorem ib.eq:Eqn (Q []) ib.spec (.r (.r (.l (.r (.l (.loop ⟨[(3,(false,(.own .h))),(4,vi)],rg 5 13,[],[]⟩ [(.ext 0,⟨[(3,(false,(.own .h)))],rg 4 14,[],[]⟩)] .none)))))):=eqn Tryz.f50
theorem dE.eq:Eqn (Q [kA.spec,b8.spec,bP.spec,bY.spec,aK.spec,bm.spec,kJ.spec]) dE.spec .none:=eqn Tryz.f369
theorem jZ.eq:Eqn (Q [kT.spec,mJ.spec,mN.spec,mF.spec,mB.spec,kH.spec,ca.spec,eO.spec]) jZ.spec .none:=eqn Tryz.f328
theorem fK.eq:Eqn (Q []) fK.spec (.r (.l (.l (.loop ⟨[(1,vi)],rg 5 15,[],[]⟩ [(.ext 0,⟨[(1,vi)],rg 5 15,[],[]⟩)] .none)))):=eqn Tryz.f137
theorem cm.eq:Eqn (Q [kA.spec,jb 80 (.int .u16),bl.spec,lC.spec,ai.spec]) cm.spec .none:=eqn Tryz.f48
theorem bL.eq:Eqn (Q [dN.spec]) bL.spec .none:=eqn Tryz.f179
theorem lN.eq:Eqn (Q [jc.spec,gR.spec,dv.spec,cK.spec]) lN.spec .none:=eqn Tryz.f315
theorem kj.eq:Eqn (Q [cc.spec,cx.spec]) kj.spec .none:=eqn Tryz.f361
theorem eP.eq:Eqn (Q [dw.spec,eN.spec]) eP.spec .none:=eqn Tryz.f294
theorem dU.eq:Eqn (Q [ij.spec,ik.spec]) dU.spec .none:=eqn Tryz.f33
theorem fL.eq:Eqn (Q [pj 119,ai.spec]) fL.spec .none:=eqn Tryz.f272
theorem aj.eq:Eqn (Q [bB.spec]) aj.spec .none:=eqn Tryz.f111
theorem cE.eq:Eqn (Q []) cE.spec .none:=eqn Tryz.f414
theorem fh.eq:Eqn (Q [b8.spec]) fh.spec .none:=eqn Tryz.f363
theorem dm.eq:Eqn (Q []) dm.spec .none:=eqn Tryz.f443
theorem ep.eq:Eqn (Q []) ep.spec .none:=eqn Tryz.f385
theorem gz.eq:Eqn (Q []) gz.spec .none:=eqn Tryz.f316
theorem gT.eq:Eqn (Q []) gT.spec .none:=eqn Tryz.f87
theorem jY.eq:Eqn (Q []) jY.spec .none:=eqn Tryz.f362
theorem dv.eq:Eqn (Q []) dv.spec .none:=eqn Tryz.f151
end Go.Mach

