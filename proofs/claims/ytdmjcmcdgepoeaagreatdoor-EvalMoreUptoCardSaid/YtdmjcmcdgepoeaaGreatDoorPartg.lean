/-
  Proved here: the law renlaw12.EvalMore returns true for every input of the stated bulk and leaves its arguments as they were; no further condition.
  By an AI agent; no person has read it.
-/
import Derived.Test.YtdmjcmcdgepoeaaGreatDoorPartf
import Derived.KernelRfl
import Derived.Test.YtdmjcmcdgepoeaaGreatDoorProg
set_option linter.all false
set_option linter.deprecated false
set_option linter.unusedVariables false
set_option maxRecDepth 100000
namespace Go.Mach
open Go.Proofs
theorem eval_run_host.eq (G:au):Eqn (Q [bR.spec,b9.spec,cx.spec,bc.spec,eQ.spec,bP.spec,aK.spec,eval_run_receives.spec G,aE.spec,aY.spec]) (eval_run_host.g.sp 376 fun x=>R.eval_run_host G x.1 x.2.1 x.2.2) (.r (.r (.two (.piece [(.nrm,⟨[],rg 9 6++rg 17 7++rg 28 23++rg 55 7++rg 67 9++rg 81 14++[100,101,102],[(5,(.box (.frz fB)))],[]⟩),(.ret,⟨[(7,vi)],rg 9 6++[17]++rg 19 9++rg 31 24++rg 60 21++[83,84]++rg 86 14,[(2,aG),(4,zs1)],[0,1]⟩)] (.r (.l (.r (.r (.r (.l (.r (.l (.l (pc [(50,vb)] (rg 43 7)))))))))))) (.r (.l (.l (.r (.r (.r (.r (.l (pc [(123,vb)] (rg 124 8))))))))))))):=eqn Tryz.f376
theorem eval_run_apply.eq (G:au):Eqn (Q [bY.spec,bx.spec,eval_run_expression.spec G,eval_run_list.spec G,bS.spec,bA.spec,aY.spec]) (eval_run_apply.g.sp 306 fun x=>R.eval_run_apply G x.1 x.2.1 x.2.2.1 x.2.2.2) (.r (.r (.r (.r (.r (.two (.piece [(.nrm,⟨[],rg 46 12,[(9,(.box (.frz aO)))],[]⟩)] .none) (.r (.r (.two (.r (.l (.loop ⟨[(76,vi)],[17,18]++rg 77 23,[(7,eW)],[6]⟩ [(.ext 1,⟨[],[17,18]++rg 76 24,[(7,eW)],[6]⟩)] .none))) (.r (.r (.r (.r (.l (.r (.l (.r (.r (.l (pc [(150,vb)] [151,152])))))))))))))))))))):=eqn Tryz.f306
theorem eval_run_arguments.eq (G:au):Eqn (Q [eval_run_expression.spec G]) (eval_run_arguments.g.sp 279 fun x=>R.eval_run_arguments G x.1 x.2.1 x.2.2) (.r (.r (.l (.r (.l (.loop ⟨[(9,(false,(.own (.frz aC)))),(16,vi)],[6,8,11,12,13]++rg 17 19,[(2,aG)],[0,1]⟩ [(.ext 0,⟨[(9,(false,(.own (.frz aC))))],[6,8,11,12,13]++rg 16 20,[(2,aG)],[0,1]⟩),(.ret,⟨[(6,(false,(.own (.frz aC)))),(8,vi)],[9,11,12,13]++rg 16 20,[(2,aG),(4,zs1)],[0,1]⟩)] .none)))))):=eqn Tryz.f279
theorem kE.eq:Eqn (Q [cn.spec,fy.spec,gA.spec,bn.spec]) kE.spec (.r (.r (.r (.r (.l (.l (.loop ⟨[(3,(false,(.own .w))),(4,(false,(.own .y)))],[5,6]++rg 12 34,[],[2]⟩ [(.ext 0,⟨[(4,(false,(.own .y)))],[3,5,6]++rg 12 34,[],[2]⟩)] (.r (.l (.r (.l (.r (.l (.loop ⟨[(5,(false,zs4)),(6,vi)],rg 18 20,[(3,(.own .w))],[]⟩ [(.ext 2,⟨[(5,(false,zs4))],[6]++rg 18 20,[(3,(.own .w))],[]⟩)] .none)))))))))))))):=eqn Tryz.f79
theorem mH.eq:Eqn (Q [iq.spec,cn.spec,fy.spec]) mH.spec (.r (.r (.r (.l (.r (.l (.loop ⟨[(26,vi)],rg 9 5++rg 27 45,[(7,(.own .w))],[]⟩ [(.ext 0,⟨[],rg 9 5++rg 26 46,[(7,(.own .w))],[]⟩)] (.r (.r (.l (.l (.r (.r (.l (.r (.l (.loop ⟨[(11,(false,zs4)),(33,vi)],[12,13]++rg 34 29,[(7,(.own .w))],[]⟩ [(.ext 2,⟨[(11,(false,zs4))],[12,13]++rg 33 30,[(7,(.own .w))],[]⟩)] .none))))))))))))))))):=eqn Tryz.f397
theorem iz.eq:Eqn (Q [fV.spec,jM.spec]) iz.spec (.r (.l (.r (.l (.loop ⟨[(12,vi)],[6,8,9]++rg 13 43,[],[]⟩ [(.ext 0,⟨[],[6,8,9]++rg 12 44,[],[]⟩),(.ret,⟨[(6,vb)],[8,9]++rg 12 44,[],[]⟩)] (.r (.r (.l (.l (.r (.r (.l (.two (pc [(21,vb)] (rg 22 8)) (.r (.l (pc [(30,vb)] (rg 31 15))))))))))))))))):=eqn Tryz.f96
theorem jT.eq:Eqn (Q [kW.spec,db.spec,fp.spec,cD.spec,bR.spec,cC.spec,bF.spec,lN.spec,kX.spec]) jT.spec (.r (.two (.r (.l (.r (.r (.r (.r (.r (.r (.l (pc [(34,vb)] [35,36])))))))))) (.r (.l (.l (.r (.r (.l (pc [(47,vb)] (rg 48 7)))))))))):=eqn Tryz.f291
theorem iy.eq:Eqn (Q [fJ.spec,i6.spec,iz.spec,eX.spec,i7.spec,ax.spec]) iy.spec (.r (.r (.two (.l (pc [(31,vb)] (rg 19 12))) (.l (.r (.l (.r (.r (.r (.r (.l (pc [(64,vb)] [65,66])))))))))))):=eqn Tryz.f57
theorem dD.eq:Eqn (Q [cA.spec,av.spec]) dD.spec (.r (.l (.r (.l (.loop ⟨[(1,vi),(16,vi)],rg 7 4++rg 17 28,[],[]⟩ [(.ext 0,⟨[],[1]++rg 7 4++rg 16 29,[],[]⟩),(.ret,⟨[(7,vi),(8,vb)],[1,9,10]++rg 16 29,[(3,zs1)],[]⟩)] .none))))):=eqn Tryz.f324
theorem parse_parser_body.eq (G:b8):Eqn (Q [bB.spec,parse_parser_assign.spec G,ah.spec,aR.spec,bW.spec]) (parse_parser_body.g.sp 244 fun x=>R.parse_parser_body G x.1 x.2) (.r (.l (pc [] [6,7,8]))):=eqn Tryz.f244
theorem cL.eq:Eqn (Q [bm.spec]) cL.spec (.r (.r (.l (.l (.loop ⟨[(5,(false,(.own .y)))],rg 6 24,[(0,cR)],[]⟩ [(.ext 0,⟨[(5,(false,(.own .y)))],rg 6 24,[(0,cR)],[]⟩)] .none))))):=eqn Tryz.f207
theorem cB.eq:Eqn ({ P:=Tryz.prog,specs:=[gp.spec,bP.spec,cf.spec],ety:=pU Tryz.prog owned,inls:=[AD 111 (pk.env Tryz.prog) Tryz.f111 .none 5] }:Env) cB.spec .none:=eqn Tryz.f416
theorem gI.eq:Eqn (Q []) gI.spec (.r (.r (.l (.r (.l (.loop ⟨[(5,vi),(6,vi)],rg 7 49,[],[]⟩ [(.ext 0,⟨[(5,vi)],rg 6 50,[],[]⟩)] (.l (.l (pc [(17,vb)] (rg 8 9)))))))))):=eqn Tryz.f55
theorem dz.eq:Eqn (Q [cU.spec,aE.spec]) dz.spec (.r (.r (.l (.piece [(.nrm,⟨[(10,vi)],rg 18 8,[],[]⟩)] (.l (pc [(25,vb)] (rg 18 7))))))):=eqn Tryz.f419
theorem parse_parser_simple.eq (G:b8):Eqn (Q [bB.spec,parse_parser_assign.spec G,ca.spec]) (parse_parser_simple.g.sp 223 fun x=>R.parse_parser_simple G x) .none:=eqn Tryz.f223
theorem eval_run_expression.eq (G:au):Eqn (Q [bj.spec,eval_run_value.spec G]) (eval_run_expression.g.sp 192 fun x=>R.eval_run_expression G x.1 x.2.1 x.2.2) .none:=eqn Tryz.f192
theorem lX.eq:Eqn (Q [j6.spec,iZ.spec,kY.spec]) lX.spec (.r (.r (.l (.r (.l (.l (pc [(7,vb)] [8,9]))))))):=eqn Tryz.f10
theorem eh.eq:Eqn (Q [eH.spec,cP.spec]) eh.spec (.r (.l (.r (.l (pc [(12,vb)] (rg 5 7)))))):=eqn Tryz.f413
theorem cz.eq:Eqn (Q [dQ.spec,bO.spec,cB.spec,dH.spec]) cz.spec .none:=eqn Tryz.f388
theorem fN.eq:Eqn (Q [jt.spec,bt.spec,j9.spec,iT.spec]) fN.spec .none:=eqn Tryz.f15
theorem cN.eq:Eqn (Q [cK.spec]) cN.spec .none:=eqn Tryz.f418
theorem fS.eq:Eqn (Q [iP.spec,gd.spec]) fS.spec .none:=eqn Tryz.f208
theorem eR.eq:Eqn (Q [fc.spec,eA.spec]) eR.spec .none:=eqn Tryz.f297
theorem kW.eq:Eqn (Q [dt.spec,cn.spec,fy.spec]) kW.spec .none:=eqn Tryz.f75
theorem bj.eq:Eqn (Q [bl.spec]) bj.spec .none:=eqn Tryz.f169
theorem eF.eq:Eqn (Q [gR.spec]) eF.spec .none:=eqn Tryz.f163
theorem b9.eq:Eqn (Q [jb 80 (.int .u16)]) b9.spec .none:=eqn Tryz.f255
theorem fL.eq:Eqn (Q [cP.spec]) fL.spec .none:=eqn Tryz.f129
theorem eU.eq:Eqn (Q []) eU.spec .none:=eqn Tryz.f104
theorem ch.eq:Eqn (Q []) ch.spec .none:=eqn Tryz.f401
theorem bF.eq:Eqn (Q []) bF.spec .none:=eqn Tryz.f257
theorem cP.eq:Eqn (Q []) cP.spec .none:=eqn Tryz.f128
theorem ki.eq:Eqn (Q []) ki.spec .none:=eqn Tryz.f393
end Go.Mach

set_option linter.unusedVariables false
set_option maxRecDepth 100000
namespace Go.Mach
open Go.Proofs
theorem kN.eq:Eqn (Q [jm.spec,dt.spec,gA.spec]) kN.spec (.r (.two (pc [(4,vs),(5,vb)] (rg 11 9)) (.two (pc [(4,vs)] [20,21,22]) (.two (.l (pc [(29,vb)] (rg 23 6))) (.r (.l (.r (.l (.loop ⟨[(6,(false,(.own .w))),(33,vi)],[3]++rg 7 4++rg 34 38,[],[]⟩ [(.ext 0,⟨[(6,(false,(.own .w)))],[3]++rg 7 4++rg 33 39,[],[]⟩),(.ret,⟨[(3,vi)],rg 6 5++rg 33 39,[(0,(.box (.seq .b (.own .w))))],[]⟩)] (.r (.r (.l (.l (.r (.r (.l (.r (.l (.loop ⟨[(8,(false,zs4)),(43,vi)],[9,10]++rg 44 17,[(1,(.own .w))],[]⟩ [(.ext 2,⟨[(8,(false,zs4))],[9,10]++rg 43 18,[(1,(.own .w))],[]⟩)] .none))))))))))))))))))):=eqn Tryz.f74
theorem eval_run_decls.eq (G:au):Eqn (Q [eval_run_expression.spec G,cQ.spec]) (eval_run_decls.g.sp 194 fun x=>R.eval_run_decls G x.1 x.2.1 x.2.2) (.r (.l (.r (.l (.loop ⟨[(15,vi)],rg 8 5++rg 16 42,[(2,aG)],[0,1]⟩ [(.ext 0,⟨[],rg 8 5++rg 15 43,[(2,aG)],[0,1]⟩),(.ret,⟨[],rg 8 5++rg 15 43,[(2,aG),(4,zs6)],[0,1]⟩)] (.r (.r (.l (.l (.r (.r (.r (.l (.piece [(.nrm,⟨[],[11,12]++rg 27 16++[46],[(2,aG),(11,zs1)],[5,6]⟩),(.ret,⟨[],[11,12]++rg 27 19,[(2,aG),(4,zs6)],[5,6]⟩)] .none)))))))))))))):=eqn Tryz.f194
theorem er.eq:Eqn (Q [cU.spec,bO.spec,aT.spec,aE.spec,cu.spec]) er.spec (.r (.r (.r (.r (.r (.two (.piece [(.nrm,⟨[(16,vi)],[15]++rg 44 10,[],[]⟩),(.ret,⟨[(11,vi)],[15,16]++rg 44 15,[(2,aG),(5,zs1)],[0,1]⟩)] .none) (.l (.piece [(.nrm,⟨[(16,vi)],rg 59 24++rg 87 9,[],[]⟩),(.ret,⟨[(11,vi)],rg 59 28,[(2,aG),(5,zs1)],[0,1]⟩)] (.l (.l (pc [(59,vb)] (rg 60 23)))))))))))):=eqn Tryz.f383
theorem iK.eq:Eqn (Q [cW.spec,aj.spec,gZ.spec]) iK.spec (.r (.r (.l (.r (.l (.loop ⟨[(3,vb),(8,vi)],[2,5]++rg 9 28,[],[]⟩ [(.ext 0,⟨[(3,vb)],[2,5]++rg 8 29,[],[]⟩),(.ret,⟨[(2,vb)],[3,5]++rg 8 29,[],[]⟩)] (.r (.r (.l (.l (.r (.two (pc [(3,vb)] (rg 12 5)) (.l (.l (.piece [(.nrm,⟨[(17,vb)],rg 18 14,[],[]⟩)] (.r (.r (.l (pc [(17,vb)] (rg 20 6)))))))))))))))))))):=eqn Tryz.f83
theorem lI.eq:Eqn (Q []) lI.spec (.r (.r (.r (.l (.r (.l (.loop ⟨[(5,(false,(.own .w))),(6,(false,zs4)),(13,vi)],[7]++rg 14 32,[],[]⟩ [(.ext 0,⟨[(5,(false,(.own .w))),(6,(false,zs4))],[7]++rg 13 33,[],[]⟩)] (.r (.r (.l (.l (.r (.two (pc [(6,(false,zs4))] (rg 16 11)) (.l (pc [(6,(false,zs4))] (rg 27 11)))))))))))))))):=eqn Tryz.f348
theorem mQ.eq:Eqn (Q [eH.spec,jA.spec,iu.spec,eM.spec,eg.spec,ch.spec,eP.spec,fL.spec,gG.spec,fW.spec]) mQ.spec (.r (.r (.r (.l (.l (.two (pc [(16,vb)] (rg 17 22)) (.r (.two (pc [(40,vb)] (rg 41 6)) (.r (.l (pc [(49,vb)] (rg 50 6)))))))))))):=eqn Tryz.f357
theorem cq.eq:Eqn (Q [bR.spec,bO.spec,bc.spec,eQ.spec,bP.spec,aE.spec]) cq.spec (.r (.r (.l (.piece [(.nrm,⟨[],[13,14]++rg 18 10++[33,34],[(7,(.box (.frz aI)))],[]⟩),(.ret,⟨[(11,vi)],[13,14]++rg 18 15,[(2,aG),(6,zs1)],[0,1]⟩)] .none)))):=eqn Tryz.f421
theorem parse_parser_member.eq (G:b8):Eqn (Q [bB.spec,bE.spec,parse_parser_assign.spec G,ah.spec,aR.spec,aM.spec]) (parse_parser_member.g.sp 392 fun x=>R.parse_parser_member G x.1 x.2) (.r (.l (.l (.r (.l (.r (.l (.l (pc [(19,vb)] (rg 12 7)))))))))):=eqn Tryz.f392
theorem ig.eq (fu:Nat):Eqn (Q [(ig.spec fu)]) (ig.g.sp 162 fun x=>R.ig (fu+1) x.1 x.2) (.r (.r (.r (.r (.l (.r (.l (.loop ⟨[(6,(false,(.own .i))),(28,vi)],[8]++rg 29 10,[(1,pY)],[4]⟩ [(.ext 0,⟨[(6,(false,(.own .i)))],[8]++rg 28 11,[(1,pY)],[4]⟩)] .none)))))))):=eqn Tryz.f162
theorem aN.eq:Eqn (Q []) aN.spec (.r (.l (.loop ⟨[(10,vi)],rg 11 27,[(0,zs0)],[]⟩ [(.ext 0,⟨[],rg 10 28,[(0,zs0)],[]⟩)] .none))):=eqn Tryz.f459
theorem jI.eq:Eqn (Q [gA.spec]) jI.spec (.r (.r (.l (.r (.l (.loop ⟨[(1,(false,.w)),(5,(false,(.own .w))),(10,vi)],[7]++rg 11 13,[],[]⟩ [(.ext 0,⟨[(1,(false,.w)),(5,(false,(.own .w)))],[7]++rg 10 14,[],[]⟩)] .none)))))):=eqn Tryz.f442
theorem i7.eq:Eqn (Q [aQ.spec]) i7.spec (.r (.l (.r (.l (.loop ⟨[(7,vi)],[2,3,4]++rg 8 10,[],[]⟩ [(.ext 0,⟨[],[2,3,4]++rg 7 11,[],[]⟩),(.ret,⟨[(2,vb)],[3,4]++rg 7 11,[],[]⟩)] .none))))):=eqn Tryz.f90
theorem cy.eq:Eqn (Q []) cy.spec (.r (.l (.r (.l (.loop ⟨[(8,vi)],[4,5]++rg 9 10,[],[]⟩ [(.ext 0,⟨[],[4,5]++rg 8 11,[],[]⟩),(.ret,⟨[(4,vi)],[5]++rg 8 11,[],[]⟩)] .none))))):=eqn Tryz.f154
theorem dU.eq:Eqn (Q [cU.spec,bO.spec,bY.spec,dI.spec,aT.spec,aK.spec,er.spec,aE.spec]) dU.spec .none:=eqn Tryz.f339
theorem kG.eq:Eqn (Q [tz 437,p7 119,mY.spec,iu.spec,eP.spec]) kG.spec (.r (.r (.r (.l (.l (pc [(28,vb)] (rg 21 7))))))):=eqn Tryz.f412
theorem eval_run_parts.eq (G:au):Eqn (Q [b9.spec,eval_run_expression.spec G,aj.spec]) (eval_run_parts.g.sp 293 fun x=>R.eval_run_parts G x.1 x.2.1 x.2.2) .none:=eqn Tryz.f293
theorem eval_run_asked.eq (G:au):Eqn (Q [fp.spec,eval_run_expression.spec G]) (eval_run_asked.g.sp 231 fun x=>R.eval_run_asked G x.1 x.2.1 x.2.2) .none:=eqn Tryz.f231
theorem jt.eq:Eqn (Q [dt.spec]) jt.spec (.r (.r (.l (pc [(3,(false,zs4))] (rg 6 4))))):=eqn Tryz.f45
theorem iD.eq:Eqn (Q [cD.spec,cZ.spec,gW.spec,aQ.spec]) iD.spec .none:=eqn Tryz.f288
theorem cA.eq:Eqn (Q [av.spec,cm.spec,di.spec]) cA.spec .none:=eqn Tryz.f304
theorem aE.eq:Eqn (Q [cY.spec,bl.spec]) aE.spec .none:=eqn Tryz.f287
theorem cc.eq:Eqn (Q [gd.spec]) cc.spec .none:=eqn Tryz.f179
theorem cY.eq:Eqn (Q [b9.spec,aT.spec]) cY.spec .none:=eqn Tryz.f312
theorem gg.eq:Eqn (Q [aQ.spec]) gg.spec .none:=eqn Tryz.f134
theorem bG.eq:Eqn (Q [av.spec]) bG.spec .none:=eqn Tryz.f326
theorem fI.eq:Eqn (Q [eX.spec]) fI.spec .none:=eqn Tryz.f230
theorem mN.eq:Eqn (Q [kU.spec,kW.spec]) mN.spec .none:=eqn Tryz.f396
theorem cF.eq:Eqn (Q []) cF.spec .none:=eqn Tryz.f216
theorem fY.eq:Eqn (Q []) fY.spec .none:=eqn Tryz.f130
theorem gr.eq:Eqn (Q []) gr.spec .none:=eqn Tryz.f424
theorem jK.eq:Eqn (Q []) jK.spec .none:=eqn Tryz.f153
theorem eg.eq:Eqn (Q []) eg.spec .none:=eqn Tryz.f308
theorem fW.eq:Eqn (Q []) fW.spec .none:=eqn Tryz.f403
end Go.Mach

set_option linter.unusedVariables false
set_option maxRecDepth 100000
namespace Go.Mach
open Go.Proofs
theorem jo.eq:Eqn (Q []) jo.spec (.r (.r (.l (.r (.l (.loop ⟨[(3,(false,(.own .i))),(10,vi)],[2,4,5,6]++rg 11 59,[],[]⟩ [(.ext 0,⟨[(3,(false,(.own .i)))],[2,4,5,6]++rg 10 60,[],[]⟩),(.ret,⟨[(2,vb)],rg 3 4++rg 10 60,[],[]⟩)] (.r (.r (.l (.l (.r (.two (.piece [(.nrm,⟨[(3,(false,(.own .i)))],rg 15 20,[],[2]⟩),(.ret,⟨[(2,vb)],rg 15 15,[],[]⟩)] (.r (.l (.l (.l (pc [(29,vb)] (rg 17 12))))))) (.r (.l (.loop ⟨[(3,(false,(.own .i))),(6,vi)],[2]++rg 39 30,[],[5]⟩ [(.ext 2,⟨[(3,(false,(.own .i)))],[2,6]++rg 39 30,[],[5]⟩),(.ret,⟨[(2,vb)],[3,6]++rg 39 30,[],[5]⟩)] (.r (.l (.l (.l (.l (pc [(60,vb)] (rg 43 17)))))))))))))))))))))):=eqn Tryz.f38
theorem dS.eq:Eqn (Q [bR.spec,bF.spec,bO.spec,bY.spec,gr.spec,gC.spec,cw.spec,cB.spec,cq.spec,dz.spec,aE.spec,bo.spec,eI.spec,dH.spec,aY.spec,eh.spec]) dS.spec (.r (.r (.r (.r (.r (.two (pc [(15,vb)] (rg 92 6)) (.l (.l (.l (.piece [(.nrm,⟨[(98,vb)],rg 99 26,[],[]⟩)] (.two (pc [(98,vb)] (rg 99 8)) (.r (.l (pc [(98,vb)] (rg 107 11))))))))))))))):=eqn Tryz.f375
theorem iT.eq:Eqn (Q [kW.spec,kN.spec,iv.spec,iI.spec,kP.spec,eT.spec]) iT.spec (.r (.r (.r (.r (.two (.piece [(.nrm,⟨[(4,(false,zs7))],rg 21 9,[],[]⟩)] (.l (pc [(27,vb)] (rg 21 6)))) (.l (.l (.r (.l (.l (.l (.loop ⟨[(4,(false,zs7))],rg 33 11,[],[]⟩ [(.ext 1,⟨[(4,(false,zs7))],rg 33 11,[],[]⟩)] (.l (.l (pc [(41,vb)] (rg 33 8)))))))))))))))):=eqn Tryz.f47
theorem kP.eq:Eqn (Q [jF.spec]) kP.spec (.r (.two (.l (.loop ⟨[(0,(false,zs7))],rg 3 11,[],[]⟩ [(.ext 0,⟨[(0,(false,zs7))],rg 3 11,[],[]⟩)] (.l (.l (pc [(11,vb)] (rg 3 8)))))) (.l (.l (.loop ⟨[(0,(false,zs7))],rg 14 17,[],[]⟩ [(.ext 2,⟨[(0,(false,zs7))],rg 14 17,[],[]⟩)] (.l (.l (pc [(25,vb)] (rg 14 11))))))))):=eqn Tryz.f71
theorem eval_run_array.eq (G:au):Eqn (Q [fT.spec,aT.spec,eval_run_expression.spec G,bU.spec]) (eval_run_array.g.sp 259 fun x=>R.eval_run_array G x.1 x.2.1 x.2.2) (.r (.r (.r (.l (.r (.l (.loop ⟨[(26,vi)],[7]++rg 10 4++rg 27 26,[(2,aG)],[5,6]⟩ [(.ext 0,⟨[],[7]++rg 10 4++rg 26 27,[(2,aG)],[5,6]⟩),(.ret,⟨[(7,vi)],rg 10 4++rg 26 27,[(2,aG),(4,zs1)],[5,6]⟩)] .none))))))):=eqn Tryz.f259
theorem eval_run_while.eq (G:au):Eqn (Q [iY.spec,eval_run_asked.spec G,eval_run_statement.spec G]) (eval_run_while.g.sp 196 fun x=>R.eval_run_while G x.1 x.2.1 x.2.2.1 x.2.2.2) (.r (.l (.r (.l (.loop ⟨[],rg 9 33,[(2,aG)],[0,1]⟩ [(.ret,⟨[],rg 9 33,[(2,aG),(4,zs6)],[0,1]⟩)] (.l (.r (.l (.l (pc [(27,vb)] (rg 21 6))))))))))):=eqn Tryz.f196
theorem fQ.eq:Eqn (Q [iP.spec,gd.spec,bm.spec,ed.spec,ej.spec,fo.spec,fq.spec]) fQ.spec (.r (.r (.l (.l (.r (.r (.r (.r (.two (pc [(29,vb)] (rg 30 6)) (.r (.l (pc [(40,vb)] (rg 41 6))))))))))))):=eqn Tryz.f158
theorem kS.eq:Eqn (Q [fl.spec,fQ.spec]) kS.spec (.r (.r (.r (.r (.l (.loop ⟨[(6,(false,(.own (.frz cS))))],[2,3,4]++rg 7 4++rg 17 41,[(0,(.box (.frz kZ)))],[]⟩ [(.ret,⟨[(2,(false,(.own (.frz cS)))),(3,vi),(4,vi)],rg 6 5++rg 17 41,[],[0]⟩)] .none)))))):=eqn Tryz.f139
theorem fJ.eq:Eqn (Q [eJ.spec]) fJ.spec (.r (.r (.l (.r (.l (.loop ⟨[(2,vi),(8,(false,(.own .i)))],[6,7]++rg 13 19,[],[]⟩ [(.ext 0,⟨[(8,(false,(.own .i)))],[2,6,7]++rg 13 19,[],[]⟩),(.ret,⟨[(6,(false,(.own .i))),(7,vi)],[2,8]++rg 13 19,[],[]⟩)] .none)))))):=eqn Tryz.f93
theorem ed.eq:Eqn (Q [dk.spec,cc.spec,cL.spec,fD.spec,aj.spec,gP.spec]) ed.spec (.r (.r (.r (.l (.l (.l (pc [(12,vb)] (rg 13 7)))))))):=eqn Tryz.f177
theorem cV.eq:Eqn (Q [dK.spec]) cV.spec (.r (.l (.r (.l (.loop ⟨[(11,vi)],rg 4 5++rg 12 19,[],[]⟩ [(.ext 0,⟨[],rg 4 5++rg 11 20,[],[]⟩),(.ret,⟨[(4,vi)],rg 5 4++rg 11 20,[],[]⟩)] .none))))):=eqn Tryz.f405
theorem eval_run_logic.eq (G:au):Eqn (Q [fp.spec,eval_run_expression.spec G]) (eval_run_logic.g.sp 276 fun x=>R.eval_run_logic G x.1 x.2.1 x.2.2) (.r (.r (.r (.r (.l (pc [(10,vb)] (rg 25 19))))))):=eqn Tryz.f276
theorem bT.eq:Eqn (Q []) bT.spec (.r (.l (.r (.l (.loop ⟨[(8,vi)],[4,5]++rg 9 10,[],[]⟩ [(.ext 0,⟨[],[4,5]++rg 8 11,[],[]⟩),(.ret,⟨[(4,vi)],[5]++rg 8 11,[],[]⟩)] .none))))):=eqn Tryz.f145
theorem dq.eq:Eqn (Q []) dq.spec (.r (.l (.r (.l (.two (pc [(5,vb)] (rg 6 4)) (.r (.l (pc [(10,vb)] (rg 11 6))))))))):=eqn Tryz.f241
theorem mL.eq:Eqn (Q []) mL.spec (.r (.r (.r (.l (.r (.l (.loop ⟨[(13,vi)],[6]++rg 14 29,[(1,(.own .w))],[]⟩ [(.ext 0,⟨[],[6]++rg 13 30,[(1,(.own .w))],[]⟩)] .none))))))):=eqn Tryz.f121
theorem jN.eq:Eqn (Q [kc.spec,iN.spec,js.spec,gl.spec]) jN.spec (.r (.l (.l (.l (pc [(8,vb)] (rg 9 8)))))):=eqn Tryz.f360
theorem al.eq:Eqn (Q [ay.spec]) al.spec .none:=eqn Tryz.f133
theorem ga.eq:Eqn (Q []) ga.spec (.r (.l (.r (.l (.r (.r (.l (pc [(7,vb)] [8,9])))))))):=eqn Tryz.f101
theorem kH.eq:Eqn (Q [eh.spec]) kH.spec (.r (.l (.r (.l (pc [(13,vb)] (rg 6 7)))))):=eqn Tryz.f377
theorem fj.eq:Eqn (Q [dx.spec,ia.spec,fK.spec]) fj.spec .none:=eqn Tryz.f34
theorem gS.eq:Eqn (Q [bt.spec,kp.spec,iN.spec]) gS.spec .none:=eqn Tryz.f331
theorem aT.eq:Eqn (Q [bl.spec,eF.spec]) aT.spec .none:=eqn Tryz.f146
theorem jP.eq:Eqn (Q [ei.spec,dh.spec]) jP.spec .none:=eqn Tryz.f338
theorem jG.eq:Eqn (Q [gq.spec,dQ.spec]) jG.spec .none:=eqn Tryz.f17
theorem eN.eq:Eqn (Q [fK.spec]) eN.spec .none:=eqn Tryz.f30
theorem aK.eq:Eqn (Q [bl.spec]) aK.spec .none:=eqn Tryz.f258
theorem mO.eq:Eqn (Q [ke.spec,kX.spec]) mO.spec .none:=eqn Tryz.f355
theorem gG.eq:Eqn (Q [cP.spec]) gG.spec .none:=eqn Tryz.f404
theorem eJ.eq:Eqn (Q []) eJ.spec .none:=eqn Tryz.f132
theorem ef.eq:Eqn (Q []) ef.spec .none:=eqn Tryz.f31
theorem jF.eq:Eqn (Q []) jF.spec .none:=eqn Tryz.f113
theorem jB.eq:Eqn (Q []) jB.spec .none:=eqn Tryz.f341
theorem bY.eq:Eqn (Q []) bY.spec .none:=eqn Tryz.f335
end Go.Mach

set_option linter.unusedVariables false
set_option maxRecDepth 100000
namespace Go.Mach
open Go.Proofs
theorem parse_parser_either.eq (G:b8):Eqn (Q [bE.spec,parse_parser_both.spec G,parse_parser_level.spec G,bW.spec,aM.spec]) (parse_parser_either.g.sp 269 fun x=>R.parse_parser_either G x) (.r (.r (.two (.r (.l (.two (.l (.loop ⟨[],rg 8 7,[(0,aL),(3,(.box zs2))],[]⟩ [(.ext 0,⟨[],rg 8 7,[(0,aL),(3,(.box zs2))],[]⟩)] .none)) (.l (.piece [(.nrm,⟨[],rg 15 6,[],[]⟩)] (.l (pc [(20,vb)] (rg 15 5)))))))) (.r (.l (.l (.loop ⟨[],rg 27 9,[(0,aL),(3,(.box zs2))],[]⟩ [(.ext 2,⟨[],rg 27 9,[(0,aL),(3,(.box zs2))],[]⟩)] .none))))))):=eqn Tryz.f269
theorem eval_run_act.eq (G:au):Eqn (Q [jb 200 .str,eval_run_block.spec G,eval_run_choice.spec G,eval_run_decls.spec G,eval_run_expression.spec G,eval_run_loop.spec G,eval_run_statement.spec G,eval_run_try.spec G,eval_run_while.spec G,fF.spec]) (eval_run_act.g.sp 170 fun x=>R.eval_run_act G x.1 x.2.1 x.2.2.1 x.2.2.2) (.r (.r (.r (.l (.r (.l (.r (.r (.r (.r (.two (pc [(52,vb)] [53,54]) (.r (.r (.r (.r (.r (.r (.r (.r (.r (.r (.r (.r (.r (.r (.r (.r (.r (.r (.l (.r (.l (.l (pc [(150,vb)] (rg 141 9))))))))))))))))))))))))))))))))))):=eqn Tryz.f170
theorem eval_run_value.eq (G:au):Eqn (Q [db.spec,cD.spec,b9.spec,bF.spec,eval_run_array.spec G,aK.spec,cG.spec,eval_run_object.spec G,eval_run_operation.spec G,dc.spec]) (eval_run_value.g.sp 229 fun x=>R.eval_run_value G x.1 x.2.1 x.2.2) (.r (.r (.l (.r (.l (.r (.r (.r (.r (.r (.r (.r (.r (.two (pc [(43,vb)] [44,45]) (.r (.r (.r (.r (.r (.r (.r (.r (.r (.l (pc [(82,vb)] [83,84]))))))))))))))))))))))))):=eqn Tryz.f229
theorem mS.eq:Eqn (Q [jL.spec,eH.spec,jA.spec,iu.spec,eM.spec,eg.spec,ch.spec,eP.spec,fL.spec,gG.spec,fW.spec]) mS.spec (.r (.r (.r (.two (.l (.two (pc [(18,vb)] (rg 19 22)) (.r (.two (pc [(42,vb)] (rg 43 6)) (.r (.l (pc [(51,vb)] (rg 52 6)))))))) (.r (.l (.l (pc [(75,vb)] (rg 70 5))))))))):=eqn Tryz.f356
theorem parse_parser_word.eq (G:b8):Eqn (Q [bB.spec,parse_parser_assign.spec G,ca.spec,aR.spec,parse_parser_simple.spec G]) (parse_parser_word.g.sp 222 fun x=>R.parse_parser_word G x.1 x.2) (.r (.l (.r (.l (.r (.r (.r (.r (.r (.r (.r (.r (.r (.r (.r (.r (.r (.two (.r (.l (pc [] [93,94,95]))) (.r (.r (.l (pc [(109,vb)] [110,111,112])))))))))))))))))))))):=eqn Tryz.f222
theorem eval_run_list.eq (G:au):Eqn (Q [eval_run_statement.spec G]) (eval_run_list.g.sp 110 fun x=>R.eval_run_list G x.1 x.2.1 x.2.2) (.r (.l (.r (.l (.loop ⟨[(12,vi)],[8,9]++rg 13 12,[(2,aG)],[0,1]⟩ [(.ext 0,⟨[],[8,9]++rg 12 13,[(2,aG)],[0,1]⟩),(.ret,⟨[],[8,9]++rg 12 13,[(2,aG),(4,zs6)],[0,1]⟩)] .none))))):=eqn Tryz.f110
theorem iR.eq:Eqn (Q [jK.spec]) iR.spec (.r (.r (.r (.l (.r (.l (.loop ⟨[(5,(false,(.own .w))),(6,(false,.w)),(14,vi)],rg 7 5++rg 15 25,[],[]⟩ [(.ext 0,⟨[(5,(false,(.own .w)))],rg 6 6++rg 14 26,[],[]⟩)] (.r (.r (.l (.l (.r (.r (.l (pc [(9,(false,.w))] (rg 19 8)))))))))))))))):=eqn Tryz.f122
theorem gp.eq:Eqn (Q [bO.spec]) gp.spec (.r (.two (.l (pc [(18,vb)] (rg 9 9))) (.r (.l (.r (.l (.loop ⟨[(6,(false,zs4)),(21,vi)],[7,8]++rg 22 12,[],[]⟩ [(.ext 0,⟨[(6,(false,zs4))],[7,8]++rg 21 13,[],[]⟩)] .none))))))):=eqn Tryz.f438
theorem ir.eq:Eqn (Q [iR.spec,mL.spec,dt.spec,cn.spec,fy.spec,kF.spec,gA.spec]) ir.spec (.r (.two (.l (pc [(12,vb)] (rg 7 5))) (.r (.l (.l (pc [(25,vb)] (rg 19 6))))))):=eqn Tryz.f81
theorem fm.eq:Eqn (Q []) fm.spec (.r (.l (.r (.l (.loop ⟨[(8,vi)],[2,3,5]++rg 9 8,[],[]⟩ [(.ext 0,⟨[],[2,3,5]++rg 8 9,[],[]⟩),(.ret,⟨[(2,(false,(.frz (.int .i32)))),(3,vi)],[5]++rg 8 9,[],[]⟩)] .none))))):=eqn Tryz.f138
theorem parse_parser_cond.eq (G:b8):Eqn (Q [bB.spec,parse_parser_assign.spec G,parse_parser_either.spec G,ah.spec,aM.spec]) (parse_parser_cond.g.sp 246 fun x=>R.parse_parser_cond G x) .none:=eqn Tryz.f246
theorem iE.eq:Eqn (Q [bO.spec]) iE.spec (.r (.r (.l (.r (.l (.loop ⟨[(5,(false,(.own .y))),(9,vi)],[6]++rg 10 11,[],[]⟩ [(.ext 0,⟨[(5,(false,(.own .y)))],[6]++rg 9 12,[],[]⟩)] .none)))))):=eqn Tryz.f431
theorem eval_run_binary.eq (G:au):Eqn (Q [eval_run_expression.spec G,gO.spec,bX.spec,gT.spec]) (eval_run_binary.g.sp 275 fun x=>R.eval_run_binary G x.1 x.2.1 x.2.2) .none:=eqn Tryz.f275
theorem cu.eq:Eqn ({ P:=Tryz.prog,specs:=[],ety:=pU Tryz.prog owned,inls:=[AD 111 (p9.env Tryz.prog) Tryz.f111 .none] }:Env) cu.spec .none:=eqn Tryz.f380
theorem aU.eq:Eqn (Q [aX.spec]) aU.spec .none:=eqn Tryz.f435
theorem fA.eq:Eqn (Q [b9.spec,bc.spec,aK.spec,aj.spec,eZ.spec,gn.spec]) fA.spec .none:=eqn Tryz.f342
theorem bU.eq:Eqn (Q [jb 80 (.int .u16),av.spec,cm.spec,di.spec]) bU.spec .none:=eqn Tryz.f167
theorem kU.eq:Eqn (Q [jk.spec,iq.spec,iR.spec,cn.spec,fy.spec,lI.spec]) kU.spec .none:=eqn Tryz.f318
theorem cm.eq:Eqn (Q [aZ.spec]) cm.spec .none:=eqn Tryz.f191
theorem cU.eq:Eqn (Q [bt.spec,bR.spec,kH.spec]) cU.spec .none:=eqn Tryz.f334
theorem dM.eq:Eqn (Q [aT.spec,eB.spec]) dM.spec .none:=eqn Tryz.f234
theorem iN.eq:Eqn (Q [eH.spec,eg.spec,iH.spec]) iN.spec .none:=eqn Tryz.f282
theorem fb.eq:Eqn (Q [lD.spec,dQ.spec]) fb.spec .none:=eqn Tryz.f18
theorem kT.eq:Eqn (Q [b9.spec,cx.spec]) kT.spec .none:=eqn Tryz.f327
theorem kq.eq:Eqn (Q [cV.spec]) kq.spec .none:=eqn Tryz.f359
theorem j9.eq:Eqn (Q [jb 70 (.int .u32)]) j9.spec .none:=eqn Tryz.f46
theorem jU.eq:Eqn (Q [gX.spec]) jU.spec .none:=eqn Tryz.f345
theorem lL.eq:Eqn (Q [kc.spec]) lL.spec .none:=eqn Tryz.f410
theorem eo.eq:Eqn (Q []) eo.spec .none:=eqn Tryz.f29
theorem iU.eq:Eqn (Q []) iU.spec .none:=eqn Tryz.f114
theorem eM.eq:Eqn (Q []) eM.spec .none:=eqn Tryz.f350
theorem jc.eq:Eqn (Q []) jc.spec .none:=eqn Tryz.f27
end Go.Mach

