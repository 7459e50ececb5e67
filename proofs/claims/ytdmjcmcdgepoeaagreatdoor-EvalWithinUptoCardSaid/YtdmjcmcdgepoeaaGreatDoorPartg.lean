/-
  Proved here: the law renlaw12.EvalWithin returns true for every input of the stated bulk and leaves its arguments as they were; no further condition.
  By an AI agent; no person has read it.
-/
import Derived.Test.YtdmjcmcdgepoeaaGreatDoorPartf
import Derived.KernelRfl
import Derived.Test.YtdmjcmcdgepoeaaGreatDoorProg
set_option linter.all false
set_option linter.deprecated false
set_option linter.unusedVariables false
set_option maxRecDepth 100000
namespace Go.Mach
open Go.Proofs
theorem eval_run_host.eq (G:au):Eqn (Q [bP.spec,bw.spec,cm.spec,bY.spec,du.spec,bX.spec,aK.spec,eval_run_receives.spec G,aF.spec,aj.spec]) (eval_run_host.g.sp 376 fun x=>R.eval_run_host G x.1 x.2.1 x.2.2) (.r (.r (.two (.piece [(.nrm,⟨[],rg 9 6++rg 17 7++rg 28 23++rg 55 7++rg 67 9++rg 81 14++[100,101,102],[(5,(.box (.frz eZ)))],[]⟩),(.ret,⟨[(7,vi)],rg 9 6++[17]++rg 19 9++rg 31 24++rg 60 21++[83,84]++rg 86 14,[(2,aG),(4,zs1)],[0,1]⟩)] (.r (.l (.r (.r (.r (.l (.r (.l (.l (.piece [(.nrm,⟨[(50,vb)],rg 43 7,[],[]⟩)] .none))))))))))) (.r (.l (.l (.r (.r (.r (.r (.l (.piece [(.nrm,⟨[(123,vb)],rg 124 8,[],[]⟩)] .none)))))))))))):=eqn Tryz.f376
theorem eval_run_apply.eq (G:au):Eqn (Q [bU.spec,cL.spec,eval_run_expression.spec G,eval_run_list.spec G,bk.spec,bF.spec,aj.spec]) (eval_run_apply.g.sp 306 fun x=>R.eval_run_apply G x.1 x.2.1 x.2.2.1 x.2.2.2) (.r (.r (.r (.r (.r (.two (.piece [(.nrm,⟨[],rg 46 12,[(9,(.box (.frz aO)))],[]⟩)] .none) (.r (.r (.two (.r (.l (.loop ⟨[(76,vi)],[17,18]++rg 77 23,[(7,dz)],[6]⟩ [(.ext 1,⟨[],[17,18]++rg 76 24,[(7,dz)],[6]⟩)] .none))) (.r (.r (.r (.r (.l (.r (.l (.r (.r (.l (.piece [(.nrm,⟨[(150,vb)],[151,152],[],[]⟩)] .none)))))))))))))))))))):=eqn Tryz.f306
theorem eval_run_arguments.eq (G:au):Eqn (Q [eval_run_expression.spec G]) (eval_run_arguments.g.sp 279 fun x=>R.eval_run_arguments G x.1 x.2.1 x.2.2) (.r (.r (.l (.r (.l (.loop ⟨[(9,(false,(.own (.frz aC)))),(16,vi)],[6,8,11,12,13]++rg 17 19,[(2,aG)],[0,1]⟩ [(.ext 0,⟨[(9,(false,(.own (.frz aC))))],[6,8,11,12,13]++rg 16 20,[(2,aG)],[0,1]⟩),(.ret,⟨[(6,(false,(.own (.frz aC)))),(8,vi)],[9,11,12,13]++rg 16 20,[(2,aG),(4,zs1)],[0,1]⟩)] .none)))))):=eqn Tryz.f279
theorem kA.eq:Eqn (Q [cf.spec,fg.spec,fk.spec,bc.spec]) kA.spec (.r (.r (.r (.r (.l (.l (.loop ⟨[(3,(false,(.own .w))),(4,(false,(.own .y)))],[5,6]++rg 12 34,[],[2]⟩ [(.ext 0,⟨[(4,(false,(.own .y)))],[3,5,6]++rg 12 34,[],[2]⟩)] (.r (.l (.r (.l (.r (.l (.loop ⟨[(5,(false,zs4)),(6,vi)],rg 18 20,[(3,(.own .w))],[]⟩ [(.ext 2,⟨[(5,(false,zs4))],[6]++rg 18 20,[(3,(.own .w))],[]⟩)] .none)))))))))))))):=eqn Tryz.f79
theorem mK.eq:Eqn (Q [iq.spec,cf.spec,fg.spec]) mK.spec (.r (.r (.r (.l (.r (.l (.loop ⟨[(26,vi)],rg 9 5++rg 27 45,[(7,(.own .w))],[]⟩ [(.ext 0,⟨[],rg 9 5++rg 26 46,[(7,(.own .w))],[]⟩)] (.r (.r (.l (.l (.r (.r (.l (.r (.l (.loop ⟨[(11,(false,zs4)),(33,vi)],[12,13]++rg 34 29,[(7,(.own .w))],[]⟩ [(.ext 2,⟨[(11,(false,zs4))],[12,13]++rg 33 30,[(7,(.own .w))],[]⟩)] .none))))))))))))))))):=eqn Tryz.f397
theorem eval_run_receives.eq (G:au):Eqn (Q [bX.spec,eval_run_call.spec G,aT.spec,aF.spec,ay.spec]) (eval_run_receives.g.sp 425 fun x=>R.eval_run_receives G x.1 x.2) (.r (.two (.l (.piece [(.nrm,⟨[(24,vb)],rg 12 12,[],[]⟩)] .none)) (.r (.r (.r (.l (.piece [(.nrm,⟨[(8,vi)],rg 41 6,[],[]⟩)] (.l (.piece [(.nrm,⟨[(46,vb)],rg 41 5,[],[]⟩)] .none))))))))):=eqn Tryz.f425
theorem jO.eq:Eqn (Q [kU.spec,dB.spec,fa.spec,b8.spec,bP.spec,bx.spec,bE.spec,lN.spec,kZ.spec]) jO.spec (.r (.two (.r (.l (.r (.r (.r (.r (.r (.r (.l (.piece [(.nrm,⟨[(34,vb)],[35,36],[],[]⟩)] .none)))))))))) (.r (.l (.l (.r (.r (.l (.piece [(.nrm,⟨[(47,vb)],rg 48 7,[],[]⟩)] .none))))))))):=eqn Tryz.f291
theorem iz.eq:Eqn (Q [ei.spec,jB.spec,iy.spec,eC.spec,iw.spec,av.spec]) iz.spec (.r (.r (.two (.l (.piece [(.nrm,⟨[(31,vb)],rg 19 12,[],[]⟩)] .none)) (.l (.r (.l (.r (.r (.r (.r (.l (.piece [(.nrm,⟨[(64,vb)],[65,66],[],[]⟩)] .none)))))))))))):=eqn Tryz.f57
theorem db.eq:Eqn (Q [cM.spec,bB.spec]) db.spec (.r (.l (.r (.l (.loop ⟨[(1,vi),(16,vi)],rg 7 4++rg 17 28,[],[]⟩ [(.ext 0,⟨[],[1]++rg 7 4++rg 16 29,[],[]⟩),(.ret,⟨[(7,vi),(8,vb)],[1,9,10]++rg 16 29,[(3,zs1)],[]⟩)] .none))))):=eqn Tryz.f324
theorem parse_parser_body.eq (G:bu):Eqn (Q [az.spec,parse_parser_assign.spec G,af.spec,aR.spec,bT.spec]) (parse_parser_body.g.sp 244 fun x=>R.parse_parser_body G x.1 x.2) (.r (.l (.piece [(.nrm,⟨[],[6,7,8],[],[]⟩)] .none))):=eqn Tryz.f244
theorem cF.eq:Eqn (Q [bh.spec]) cF.spec (.r (.r (.l (.l (.loop ⟨[(5,(false,(.own .y)))],rg 6 24,[(0,cO)],[]⟩ [(.ext 0,⟨[(5,(false,(.own .y)))],rg 6 24,[(0,cO)],[]⟩)] .none))))):=eqn Tryz.f207
theorem cj.eq:Eqn ({ P:=Tryz.prog,specs:=[gg.spec,bX.spec,cZ.spec],ety:=pO Tryz.prog owned,inls:=[zT 111 (qA.env Tryz.prog) Tryz.f111 .none 5] }:Env) cj.spec .none:=eqn Tryz.f416
theorem fx.eq:Eqn (Q []) fx.spec (.r (.r (.l (.r (.l (.loop ⟨[(5,vi),(6,vi)],rg 7 49,[],[]⟩ [(.ext 0,⟨[(5,vi)],rg 6 50,[],[]⟩)] (.l (.l (.piece [(.nrm,⟨[(17,vb)],rg 8 9,[],[]⟩)] .none))))))))):=eqn Tryz.f55
theorem fD.eq:Eqn (Q [cQ.spec,aF.spec]) fD.spec (.r (.r (.l (.piece [(.nrm,⟨[(10,vi)],rg 18 8,[],[]⟩)] (.l (.piece [(.nrm,⟨[(25,vb)],rg 18 7,[],[]⟩)] .none)))))):=eqn Tryz.f419
theorem parse_parser_simple.eq (G:bu):Eqn (Q [az.spec,parse_parser_assign.spec G,cT.spec]) (parse_parser_simple.g.sp 223 fun x=>R.parse_parser_simple G x) .none:=eqn Tryz.f223
theorem eval_run_expression.eq (G:au):Eqn (Q [bz.spec,eval_run_value.spec G]) (eval_run_expression.g.sp 192 fun x=>R.eval_run_expression G x.1 x.2.1 x.2.2) .none:=eqn Tryz.f192
theorem lW.eq:Eqn (Q [jy.spec,ia.spec,kW.spec]) lW.spec (.r (.r (.l (.r (.l (.l (.piece [(.nrm,⟨[(7,vb)],[8,9],[],[]⟩)] .none))))))):=eqn Tryz.f10
theorem eJ.eq:Eqn (Q [da.spec,cK.spec]) eJ.spec (.r (.l (.r (.l (.piece [(.nrm,⟨[(12,vb)],rg 5 7,[],[]⟩)] .none))))):=eqn Tryz.f413
theorem dh.eq:Eqn (Q [c7.spec,bN.spec,cj.spec,ct.spec]) dh.spec .none:=eqn Tryz.f388
theorem ev.eq:Eqn (Q [jl.spec,bl.spec,j8.spec,iQ.spec]) ev.spec .none:=eqn Tryz.f15
theorem cI.eq:Eqn (Q [cE.spec]) cI.spec .none:=eqn Tryz.f418
theorem fC.eq:Eqn (Q [iO.spec,gV.spec]) fC.spec .none:=eqn Tryz.f208
theorem fU.eq:Eqn (Q [gh.spec,fM.spec]) fU.spec .none:=eqn Tryz.f297
theorem kU.eq:Eqn (Q [dQ.spec,cf.spec,fg.spec]) kU.spec .none:=eqn Tryz.f75
theorem bz.eq:Eqn (Q [cA.spec]) bz.spec .none:=eqn Tryz.f169
theorem fN.eq:Eqn (Q [gL.spec]) fN.spec .none:=eqn Tryz.f163
theorem bw.eq:Eqn (Q [jb 80 (.int .u16)]) bw.spec .none:=eqn Tryz.f255
theorem eh.eq:Eqn (Q [cK.spec]) eh.spec .none:=eqn Tryz.f129
theorem dy.eq:Eqn (Q []) dy.spec .none:=eqn Tryz.f104
theorem cb.eq:Eqn (Q []) cb.spec .none:=eqn Tryz.f401
theorem gU.eq:Eqn (Q []) gU.spec .none:=eqn Tryz.f313
theorem iO.eq:Eqn (Q []) iO.spec .none:=eqn Tryz.f144
theorem iH.eq:Eqn (Q []) iH.spec .none:=eqn Tryz.f309
end Go.Mach

set_option linter.unusedVariables false
set_option maxRecDepth 100000
namespace Go.Mach
open Go.Proofs
theorem kK.eq:Eqn (Q [jk.spec,dQ.spec,fk.spec]) kK.spec (.r (.two (.piece [(.nrm,⟨[(4,vs),(5,vb)],rg 11 9,[],[]⟩)] .none) (.two (.piece [(.nrm,⟨[(4,vs)],[20,21,22],[],[]⟩)] .none) (.two (.l (.piece [(.nrm,⟨[(29,vb)],rg 23 6,[],[]⟩)] .none)) (.r (.l (.r (.l (.loop ⟨[(6,(false,(.own .w))),(33,vi)],[3]++rg 7 4++rg 34 38,[],[]⟩ [(.ext 0,⟨[(6,(false,(.own .w)))],[3]++rg 7 4++rg 33 39,[],[]⟩),(.ret,⟨[(3,vi)],rg 6 5++rg 33 39,[(0,(.box (.seq .b (.own .w))))],[]⟩)] (.r (.r (.l (.l (.r (.r (.l (.r (.l (.loop ⟨[(8,(false,zs4)),(43,vi)],[9,10]++rg 44 17,[(1,(.own .w))],[]⟩ [(.ext 2,⟨[(8,(false,zs4))],[9,10]++rg 43 18,[(1,(.own .w))],[]⟩)] .none))))))))))))))))))):=eqn Tryz.f74
theorem eval_run_decls.eq (G:au):Eqn (Q [eval_run_expression.spec G,ch.spec]) (eval_run_decls.g.sp 194 fun x=>R.eval_run_decls G x.1 x.2.1 x.2.2) (.r (.l (.r (.l (.loop ⟨[(15,vi)],rg 8 5++rg 16 42,[(2,aG)],[0,1]⟩ [(.ext 0,⟨[],rg 8 5++rg 15 43,[(2,aG)],[0,1]⟩),(.ret,⟨[],rg 8 5++rg 15 43,[(2,aG),(4,zs6)],[0,1]⟩)] (.r (.r (.l (.l (.r (.r (.r (.l (.piece [(.nrm,⟨[],[11,12]++rg 27 16++[46],[(2,aG),(11,zs1)],[5,6]⟩),(.ret,⟨[],[11,12]++rg 27 19,[(2,aG),(4,zs6)],[5,6]⟩)] .none)))))))))))))):=eqn Tryz.f194
theorem fo.eq:Eqn (Q [cQ.spec,bN.spec,aT.spec,aF.spec,dD.spec]) fo.spec (.r (.r (.r (.r (.r (.two (.piece [(.nrm,⟨[(16,vi)],[15]++rg 44 10,[],[]⟩),(.ret,⟨[(11,vi)],[15,16]++rg 44 15,[(2,aG),(5,zs1)],[0,1]⟩)] .none) (.l (.piece [(.nrm,⟨[(16,vi)],rg 59 24++rg 87 9,[],[]⟩),(.ret,⟨[(11,vi)],rg 59 28,[(2,aG),(5,zs1)],[0,1]⟩)] (.l (.l (.piece [(.nrm,⟨[(59,vb)],rg 60 23,[],[]⟩)] .none))))))))))):=eqn Tryz.f383
theorem iG.eq:Eqn (Q [cU.spec,ai.spec,gT.spec]) iG.spec (.r (.r (.l (.r (.l (.loop ⟨[(3,vb),(8,vi)],[2,5]++rg 9 28,[],[]⟩ [(.ext 0,⟨[(3,vb)],[2,5]++rg 8 29,[],[]⟩),(.ret,⟨[(2,vb)],[3,5]++rg 8 29,[],[]⟩)] (.r (.r (.l (.l (.r (.two (.piece [(.nrm,⟨[(3,vb)],rg 12 5,[],[]⟩)] .none) (.l (.l (.piece [(.nrm,⟨[(17,vb)],rg 18 14,[],[]⟩)] (.r (.r (.l (.piece [(.nrm,⟨[(17,vb)],rg 20 6,[],[]⟩)] .none))))))))))))))))))):=eqn Tryz.f83
theorem lG.eq:Eqn (Q []) lG.spec (.r (.r (.r (.l (.r (.l (.loop ⟨[(5,(false,(.own .w))),(6,(false,zs4)),(13,vi)],[7]++rg 14 32,[],[]⟩ [(.ext 0,⟨[(5,(false,(.own .w))),(6,(false,zs4))],[7]++rg 13 33,[],[]⟩)] (.r (.r (.l (.l (.r (.two (.piece [(.nrm,⟨[(6,(false,zs4))],rg 16 11,[],[]⟩)] .none) (.l (.piece [(.nrm,⟨[(6,(false,zs4))],rg 27 11,[],[]⟩)] .none))))))))))))))):=eqn Tryz.f348
theorem iy.eq:Eqn (Q [fK.spec,jP.spec]) iy.spec (.r (.l (.r (.l (.loop ⟨[(12,vi)],[6,8,9]++rg 13 43,[],[]⟩ [(.ext 0,⟨[],[6,8,9]++rg 12 44,[],[]⟩),(.ret,⟨[(6,vb)],[8,9]++rg 12 44,[],[]⟩)] (.r (.r (.l (.l (.r (.r (.l (.two (.piece [(.nrm,⟨[(21,vb)],rg 22 8,[],[]⟩)] .none) (.r (.l (.piece [(.nrm,⟨[(30,vb)],rg 31 15,[],[]⟩)] .none)))))))))))))))):=eqn Tryz.f96
theorem dI.eq:Eqn (Q [bP.spec,bN.spec,bY.spec,du.spec,bX.spec,aF.spec]) dI.spec (.r (.r (.l (.piece [(.nrm,⟨[],[13,14]++rg 18 10++[33,34],[(7,(.box (.frz aH)))],[]⟩),(.ret,⟨[(11,vi)],[13,14]++rg 18 15,[(2,aG),(6,zs1)],[0,1]⟩)] .none)))):=eqn Tryz.f421
theorem parse_parser_member.eq (G:bu):Eqn (Q [az.spec,bD.spec,parse_parser_assign.spec G,af.spec,aR.spec,aM.spec]) (parse_parser_member.g.sp 392 fun x=>R.parse_parser_member G x.1 x.2) (.r (.l (.l (.r (.l (.r (.l (.l (.piece [(.nrm,⟨[(19,vb)],rg 12 7,[],[]⟩)] .none))))))))):=eqn Tryz.f392
theorem ic.eq (fu:Nat):Eqn (Q [(ic.spec fu)]) (ic.g.sp 162 fun x=>R.ic (fu+1) x.1 x.2) (.r (.r (.r (.r (.l (.r (.l (.loop ⟨[(6,(false,(.own .i))),(28,vi)],[8]++rg 29 10,[(1,pb)],[4]⟩ [(.ext 0,⟨[(6,(false,(.own .i)))],[8]++rg 28 11,[(1,pb)],[4]⟩)] .none)))))))):=eqn Tryz.f162
theorem aN.eq:Eqn (Q []) aN.spec (.r (.l (.loop ⟨[(10,vi)],rg 11 27,[(0,zs0)],[]⟩ [(.ext 0,⟨[],rg 10 28,[(0,zs0)],[]⟩)] .none))):=eqn Tryz.f459
theorem jH.eq:Eqn (Q [fk.spec]) jH.spec (.r (.r (.l (.r (.l (.loop ⟨[(1,(false,.w)),(5,(false,(.own .w))),(10,vi)],[7]++rg 11 13,[],[]⟩ [(.ext 0,⟨[(1,(false,.w)),(5,(false,(.own .w)))],[7]++rg 10 14,[],[]⟩)] .none)))))):=eqn Tryz.f442
theorem iw.eq:Eqn (Q [aQ.spec]) iw.spec (.r (.l (.r (.l (.loop ⟨[(7,vi)],[2,3,4]++rg 8 10,[],[]⟩ [(.ext 0,⟨[],[2,3,4]++rg 7 11,[],[]⟩),(.ret,⟨[(2,vb)],[3,4]++rg 7 11,[],[]⟩)] .none))))):=eqn Tryz.f90
theorem cn.eq:Eqn (Q []) cn.spec (.r (.l (.r (.l (.loop ⟨[(8,vi)],[4,5]++rg 9 10,[],[]⟩ [(.ext 0,⟨[],[4,5]++rg 8 11,[],[]⟩),(.ret,⟨[(4,vi)],[5]++rg 8 11,[],[]⟩)] .none))))):=eqn Tryz.f154
theorem eW.eq:Eqn (Q [cQ.spec,bN.spec,bU.spec,dq.spec,aT.spec,aK.spec,fo.spec,aF.spec]) eW.spec .none:=eqn Tryz.f339
theorem kJ.eq:Eqn (Q [uD 437,pj 119,mV.spec,i6.spec,dv.spec]) kJ.spec (.r (.r (.r (.l (.l (.piece [(.nrm,⟨[(28,vb)],rg 21 7,[],[]⟩)] .none)))))):=eqn Tryz.f412
theorem eval_run_parts.eq (G:au):Eqn (Q [bw.spec,eval_run_expression.spec G,ai.spec]) (eval_run_parts.g.sp 293 fun x=>R.eval_run_parts G x.1 x.2.1 x.2.2) .none:=eqn Tryz.f293
theorem eval_run_asked.eq (G:au):Eqn (Q [fa.spec,eval_run_expression.spec G]) (eval_run_asked.g.sp 231 fun x=>R.eval_run_asked G x.1 x.2.1 x.2.2) .none:=eqn Tryz.f231
theorem jl.eq:Eqn (Q [dQ.spec]) jl.spec (.r (.r (.l (.piece [(.nrm,⟨[(3,(false,zs4))],rg 6 4,[],[]⟩)] .none)))):=eqn Tryz.f45
theorem iB.eq:Eqn (Q [b8.spec,cW.spec,gU.spec,aQ.spec]) iB.spec .none:=eqn Tryz.f288
theorem cM.eq:Eqn (Q [bB.spec,dA.spec,dJ.spec]) cM.spec .none:=eqn Tryz.f304
theorem aF.eq:Eqn (Q [cq.spec,cA.spec]) aF.spec .none:=eqn Tryz.f287
theorem cY.eq:Eqn (Q [gV.spec]) cY.spec .none:=eqn Tryz.f179
theorem cq.eq:Eqn (Q [bw.spec,aT.spec]) cq.spec .none:=eqn Tryz.f312
theorem gX.eq:Eqn (Q [aQ.spec]) gX.spec .none:=eqn Tryz.f134
theorem bM.eq:Eqn (Q [bB.spec]) bM.spec .none:=eqn Tryz.f326
theorem eg.eq:Eqn (Q [eC.spec]) eg.spec .none:=eqn Tryz.f230
theorem mO.eq:Eqn (Q [kV.spec,kU.spec]) mO.spec .none:=eqn Tryz.f396
theorem cB.eq:Eqn (Q []) cB.spec .none:=eqn Tryz.f216
theorem fP.eq:Eqn (Q []) fP.spec .none:=eqn Tryz.f130
theorem gm.eq:Eqn (Q []) gm.spec .none:=eqn Tryz.f424
theorem bE.eq:Eqn (Q []) bE.spec .none:=eqn Tryz.f257
theorem cK.eq:Eqn (Q []) cK.spec .none:=eqn Tryz.f128
theorem kc.eq:Eqn (Q []) kc.spec .none:=eqn Tryz.f393
end Go.Mach

set_option linter.unusedVariables false
set_option maxRecDepth 100000
namespace Go.Mach
open Go.Proofs
theorem jq.eq:Eqn (Q []) jq.spec (.r (.r (.l (.r (.l (.loop ⟨[(3,(false,(.own .i))),(10,vi)],[2,4,5,6]++rg 11 59,[],[]⟩ [(.ext 0,⟨[(3,(false,(.own .i)))],[2,4,5,6]++rg 10 60,[],[]⟩),(.ret,⟨[(2,vb)],rg 3 4++rg 10 60,[],[]⟩)] (.r (.r (.l (.l (.r (.two (.piece [(.nrm,⟨[(3,(false,(.own .i)))],rg 15 20,[],[2]⟩),(.ret,⟨[(2,vb)],rg 15 15,[],[]⟩)] (.r (.l (.l (.l (.piece [(.nrm,⟨[(29,vb)],rg 17 12,[],[]⟩)] .none)))))) (.r (.l (.loop ⟨[(3,(false,(.own .i))),(6,vi)],[2]++rg 39 30,[],[5]⟩ [(.ext 2,⟨[(3,(false,(.own .i)))],[2,6]++rg 39 30,[],[5]⟩),(.ret,⟨[(2,vb)],[3,6]++rg 39 30,[],[5]⟩)] (.r (.l (.l (.l (.l (.piece [(.nrm,⟨[(60,vb)],rg 43 17,[],[]⟩)] .none))))))))))))))))))))):=eqn Tryz.f38
theorem ea.eq:Eqn (Q [bP.spec,bE.spec,bN.spec,bU.spec,gm.spec,fj.spec,dP.spec,cj.spec,dI.spec,fD.spec,aF.spec,cS.spec,fE.spec,ct.spec,aj.spec,eJ.spec]) ea.spec (.r (.r (.r (.r (.r (.two (.piece [(.nrm,⟨[(15,vb)],rg 92 6,[],[]⟩)] .none) (.l (.l (.l (.piece [(.nrm,⟨[(98,vb)],rg 99 26,[],[]⟩)] (.two (.piece [(.nrm,⟨[(98,vb)],rg 99 8,[],[]⟩)] .none) (.r (.l (.piece [(.nrm,⟨[(98,vb)],rg 107 11,[],[]⟩)] .none)))))))))))))):=eqn Tryz.f375
theorem iQ.eq:Eqn (Q [kU.spec,kK.spec,iv.spec,iI.spec,kM.spec,eA.spec]) iQ.spec (.r (.r (.r (.r (.two (.piece [(.nrm,⟨[(4,(false,zs7))],rg 21 9,[],[]⟩)] (.l (.piece [(.nrm,⟨[(27,vb)],rg 21 6,[],[]⟩)] .none))) (.l (.l (.r (.l (.l (.l (.loop ⟨[(4,(false,zs7))],rg 33 11,[],[]⟩ [(.ext 1,⟨[(4,(false,zs7))],rg 33 11,[],[]⟩)] (.l (.l (.piece [(.nrm,⟨[(41,vb)],rg 33 8,[],[]⟩)] .none))))))))))))))):=eqn Tryz.f47
theorem kM.eq:Eqn (Q [jU.spec]) kM.spec (.r (.two (.l (.loop ⟨[(0,(false,zs7))],rg 3 11,[],[]⟩ [(.ext 0,⟨[(0,(false,zs7))],rg 3 11,[],[]⟩)] (.l (.l (.piece [(.nrm,⟨[(11,vb)],rg 3 8,[],[]⟩)] .none))))) (.l (.l (.loop ⟨[(0,(false,zs7))],rg 14 17,[],[]⟩ [(.ext 2,⟨[(0,(false,zs7))],rg 14 17,[],[]⟩)] (.l (.l (.piece [(.nrm,⟨[(25,vb)],rg 14 11,[],[]⟩)] .none)))))))):=eqn Tryz.f71
theorem eval_run_array.eq (G:au):Eqn (Q [fL.spec,aT.spec,eval_run_expression.spec G,bj.spec]) (eval_run_array.g.sp 259 fun x=>R.eval_run_array G x.1 x.2.1 x.2.2) (.r (.r (.r (.l (.r (.l (.loop ⟨[(26,vi)],[7]++rg 10 4++rg 27 26,[(2,aG)],[5,6]⟩ [(.ext 0,⟨[],[7]++rg 10 4++rg 26 27,[(2,aG)],[5,6]⟩),(.ret,⟨[(7,vi)],rg 10 4++rg 26 27,[(2,aG),(4,zs1)],[5,6]⟩)] .none))))))):=eqn Tryz.f259
theorem mJ.eq:Eqn (Q [da.spec,jE.spec,i6.spec,dk.spec,eH.spec,cb.spec,dv.spec,eh.spec,gD.spec,fO.spec]) mJ.spec (.r (.r (.r (.l (.l (.two (.piece [(.nrm,⟨[(16,vb)],rg 17 22,[],[]⟩)] .none) (.r (.two (.piece [(.nrm,⟨[(40,vb)],rg 41 6,[],[]⟩)] .none) (.r (.l (.piece [(.nrm,⟨[(49,vb)],rg 50 6,[],[]⟩)] .none))))))))))):=eqn Tryz.f357
theorem ez.eq:Eqn (Q [iO.spec,gV.spec,bh.spec,eK.spec,eF.spec,fc.spec,fZ.spec]) ez.spec (.r (.r (.l (.l (.r (.r (.r (.r (.two (.piece [(.nrm,⟨[(29,vb)],rg 30 6,[],[]⟩)] .none) (.r (.l (.piece [(.nrm,⟨[(40,vb)],rg 41 6,[],[]⟩)] .none)))))))))))):=eqn Tryz.f158
theorem kQ.eq:Eqn (Q [fb.spec,ez.spec]) kQ.spec (.r (.r (.r (.r (.l (.loop ⟨[(6,(false,(.own (.frz cN))))],[2,3,4]++rg 7 4++rg 17 41,[(0,(.box (.frz kS)))],[]⟩ [(.ret,⟨[(2,(false,(.own (.frz cN)))),(3,vi),(4,vi)],rg 6 5++rg 17 41,[],[0]⟩)] .none)))))):=eqn Tryz.f139
theorem ei.eq:Eqn (Q [dY.spec]) ei.spec (.r (.r (.l (.r (.l (.loop ⟨[(2,vi),(8,(false,(.own .i)))],[6,7]++rg 13 19,[],[]⟩ [(.ext 0,⟨[(8,(false,(.own .i)))],[2,6,7]++rg 13 19,[],[]⟩),(.ret,⟨[(6,(false,(.own .i))),(7,vi)],[2,8]++rg 13 19,[],[]⟩)] .none)))))):=eqn Tryz.f93
theorem eK.eq:Eqn (Q [dK.spec,cY.spec,cF.spec,eU.spec,ai.spec,gK.spec]) eK.spec (.r (.r (.r (.l (.l (.l (.piece [(.nrm,⟨[(12,vb)],rg 13 7,[],[]⟩)] .none))))))):=eqn Tryz.f177
theorem cR.eq:Eqn (Q [cw.spec]) cR.spec (.r (.l (.r (.l (.loop ⟨[(11,vi)],rg 4 5++rg 12 19,[],[]⟩ [(.ext 0,⟨[],rg 4 5++rg 11 20,[],[]⟩),(.ret,⟨[(4,vi)],rg 5 4++rg 11 20,[],[]⟩)] .none))))):=eqn Tryz.f405
theorem eval_run_logic.eq (G:au):Eqn (Q [fa.spec,eval_run_expression.spec G]) (eval_run_logic.g.sp 276 fun x=>R.eval_run_logic G x.1 x.2.1 x.2.2) (.r (.r (.r (.r (.l (.piece [(.nrm,⟨[(10,vb)],rg 25 19,[],[]⟩)] .none)))))):=eqn Tryz.f276
theorem bQ.eq:Eqn (Q []) bQ.spec (.r (.l (.r (.l (.loop ⟨[(8,vi)],[4,5]++rg 9 10,[],[]⟩ [(.ext 0,⟨[],[4,5]++rg 8 11,[],[]⟩),(.ret,⟨[(4,vi)],[5]++rg 8 11,[],[]⟩)] .none))))):=eqn Tryz.f145
theorem dN.eq:Eqn (Q []) dN.spec (.r (.l (.r (.l (.two (.piece [(.nrm,⟨[(5,vb)],rg 6 4,[],[]⟩)] .none) (.r (.l (.piece [(.nrm,⟨[(10,vb)],rg 11 6,[],[]⟩)] .none)))))))):=eqn Tryz.f241
theorem mG.eq:Eqn (Q []) mG.spec (.r (.r (.r (.l (.r (.l (.loop ⟨[(13,vi)],[6]++rg 14 29,[(1,(.own .w))],[]⟩ [(.ext 0,⟨[],[6]++rg 13 30,[(1,(.own .w))],[]⟩)] .none))))))):=eqn Tryz.f121
theorem jI.eq:Eqn (Q [kY.spec,iN.spec,jn.spec,gd.spec]) jI.spec (.r (.l (.l (.l (.piece [(.nrm,⟨[(8,vb)],rg 9 8,[],[]⟩)] .none))))):=eqn Tryz.f360
theorem al.eq:Eqn (Q [aw.spec]) al.spec .none:=eqn Tryz.f133
theorem gS.eq:Eqn (Q []) gS.spec (.r (.l (.r (.l (.r (.r (.l (.piece [(.nrm,⟨[(7,vb)],[8,9],[],[]⟩)] .none)))))))):=eqn Tryz.f101
theorem kP.eq:Eqn (Q [eJ.spec]) kP.spec (.r (.l (.r (.l (.piece [(.nrm,⟨[(13,vb)],rg 6 7,[],[]⟩)] .none))))):=eqn Tryz.f377
theorem fW.eq:Eqn (Q [dU.spec,ib.spec,gP.spec]) fW.spec .none:=eqn Tryz.f34
theorem gN.eq:Eqn (Q [bl.spec,kj.spec,iN.spec]) gN.spec .none:=eqn Tryz.f331
theorem aT.eq:Eqn (Q [cA.spec,fN.spec]) aT.spec .none:=eqn Tryz.f146
theorem jJ.eq:Eqn (Q [eE.spec,dF.spec]) jJ.spec .none:=eqn Tryz.f338
theorem jQ.eq:Eqn (Q [gi.spec,c7.spec]) jQ.spec .none:=eqn Tryz.f17
theorem fA.eq:Eqn (Q [gP.spec]) fA.spec .none:=eqn Tryz.f30
theorem aK.eq:Eqn (Q [cA.spec]) aK.spec .none:=eqn Tryz.f258
theorem mB.eq:Eqn (Q [kT.spec,kZ.spec]) mB.spec .none:=eqn Tryz.f355
theorem gD.eq:Eqn (Q [cK.spec]) gD.spec .none:=eqn Tryz.f404
theorem dY.eq:Eqn (Q []) dY.spec .none:=eqn Tryz.f132
theorem fe.eq:Eqn (Q []) fe.spec .none:=eqn Tryz.f29
theorem jM.eq:Eqn (Q []) jM.spec .none:=eqn Tryz.f153
theorem eH.eq:Eqn (Q []) eH.spec .none:=eqn Tryz.f308
theorem fO.eq:Eqn (Q []) fO.spec .none:=eqn Tryz.f403
end Go.Mach

set_option linter.unusedVariables false
set_option maxRecDepth 100000
namespace Go.Mach
open Go.Proofs
theorem parse_parser_either.eq (G:bu):Eqn (Q [bD.spec,parse_parser_both.spec G,parse_parser_level.spec G,bT.spec,aM.spec]) (parse_parser_either.g.sp 269 fun x=>R.parse_parser_either G x) (.r (.r (.two (.r (.l (.two (.l (.loop ⟨[],rg 8 7,[(0,aL),(3,(.box zs2))],[]⟩ [(.ext 0,⟨[],rg 8 7,[(0,aL),(3,(.box zs2))],[]⟩)] .none)) (.l (.piece [(.nrm,⟨[],rg 15 6,[],[]⟩)] (.l (.piece [(.nrm,⟨[(20,vb)],rg 15 5,[],[]⟩)] .none))))))) (.r (.l (.l (.loop ⟨[],rg 27 9,[(0,aL),(3,(.box zs2))],[]⟩ [(.ext 2,⟨[],rg 27 9,[(0,aL),(3,(.box zs2))],[]⟩)] .none))))))):=eqn Tryz.f269
theorem eval_run_act.eq (G:au):Eqn (Q [jb 200 .str,eval_run_block.spec G,eval_run_choice.spec G,eval_run_decls.spec G,eval_run_expression.spec G,eval_run_loop.spec G,eval_run_statement.spec G,eval_run_try.spec G,eval_run_while.spec G,ej.spec]) (eval_run_act.g.sp 170 fun x=>R.eval_run_act G x.1 x.2.1 x.2.2.1 x.2.2.2) (.r (.r (.r (.l (.r (.l (.r (.r (.r (.r (.two (.piece [(.nrm,⟨[(52,vb)],[53,54],[],[]⟩)] .none) (.r (.r (.r (.r (.r (.r (.r (.r (.r (.r (.r (.r (.r (.r (.r (.r (.r (.r (.l (.r (.l (.l (.piece [(.nrm,⟨[(150,vb)],rg 141 9,[],[]⟩)] .none)))))))))))))))))))))))))))))))))):=eqn Tryz.f170
theorem eval_run_value.eq (G:au):Eqn (Q [dB.spec,b8.spec,bw.spec,bE.spec,eval_run_array.spec G,aK.spec,cd.spec,eval_run_object.spec G,eval_run_operation.spec G,eN.spec]) (eval_run_value.g.sp 229 fun x=>R.eval_run_value G x.1 x.2.1 x.2.2) (.r (.r (.l (.r (.l (.r (.r (.r (.r (.r (.r (.r (.r (.two (.piece [(.nrm,⟨[(43,vb)],[44,45],[],[]⟩)] .none) (.r (.r (.r (.r (.r (.r (.r (.r (.r (.l (.piece [(.nrm,⟨[(82,vb)],[83,84],[],[]⟩)] .none))))))))))))))))))))))))):=eqn Tryz.f229
theorem mN.eq:Eqn (Q [jV.spec,da.spec,jE.spec,i6.spec,dk.spec,eH.spec,cb.spec,dv.spec,eh.spec,gD.spec,fO.spec]) mN.spec (.r (.r (.r (.two (.l (.two (.piece [(.nrm,⟨[(18,vb)],rg 19 22,[],[]⟩)] .none) (.r (.two (.piece [(.nrm,⟨[(42,vb)],rg 43 6,[],[]⟩)] .none) (.r (.l (.piece [(.nrm,⟨[(51,vb)],rg 52 6,[],[]⟩)] .none))))))) (.r (.l (.l (.piece [(.nrm,⟨[(75,vb)],rg 70 5,[],[]⟩)] .none)))))))):=eqn Tryz.f356
theorem parse_parser_word.eq (G:bu):Eqn (Q [az.spec,parse_parser_assign.spec G,cT.spec,aR.spec,parse_parser_simple.spec G]) (parse_parser_word.g.sp 222 fun x=>R.parse_parser_word G x.1 x.2) (.r (.l (.r (.l (.r (.r (.r (.r (.r (.r (.r (.r (.r (.r (.r (.r (.r (.two (.r (.l (.piece [(.nrm,⟨[],[93,94,95],[],[]⟩)] .none))) (.r (.r (.l (.piece [(.nrm,⟨[(109,vb)],[110,111,112],[],[]⟩)] .none)))))))))))))))))))))):=eqn Tryz.f222
theorem eval_run_while.eq (G:au):Eqn (Q [jF.spec,eval_run_asked.spec G,eval_run_statement.spec G]) (eval_run_while.g.sp 196 fun x=>R.eval_run_while G x.1 x.2.1 x.2.2.1 x.2.2.2) (.r (.l (.r (.l (.loop ⟨[],rg 9 33,[(2,aG)],[0,1]⟩ [(.ret,⟨[],rg 9 33,[(2,aG),(4,zs6)],[0,1]⟩)] (.l (.r (.l (.l (.piece [(.nrm,⟨[(27,vb)],rg 21 6,[],[]⟩)] .none)))))))))):=eqn Tryz.f196
theorem eval_run_list.eq (G:au):Eqn (Q [eval_run_statement.spec G]) (eval_run_list.g.sp 110 fun x=>R.eval_run_list G x.1 x.2.1 x.2.2) (.r (.l (.r (.l (.loop ⟨[(12,vi)],[8,9]++rg 13 12,[(2,aG)],[0,1]⟩ [(.ext 0,⟨[],[8,9]++rg 12 13,[(2,aG)],[0,1]⟩),(.ret,⟨[],[8,9]++rg 12 13,[(2,aG),(4,zs6)],[0,1]⟩)] .none))))):=eqn Tryz.f110
theorem iU.eq:Eqn (Q [jM.spec]) iU.spec (.r (.r (.r (.l (.r (.l (.loop ⟨[(5,(false,(.own .w))),(6,(false,.w)),(14,vi)],rg 7 5++rg 15 25,[],[]⟩ [(.ext 0,⟨[(5,(false,(.own .w)))],rg 6 6++rg 14 26,[],[]⟩)] (.r (.r (.l (.l (.r (.r (.l (.piece [(.nrm,⟨[(9,(false,.w))],rg 19 8,[],[]⟩)] .none))))))))))))))):=eqn Tryz.f122
theorem gg.eq:Eqn (Q [bN.spec]) gg.spec (.r (.two (.l (.piece [(.nrm,⟨[(18,vb)],rg 9 9,[],[]⟩)] .none)) (.r (.l (.r (.l (.loop ⟨[(6,(false,zs4)),(21,vi)],[7,8]++rg 22 12,[],[]⟩ [(.ext 0,⟨[(6,(false,zs4))],[7,8]++rg 21 13,[],[]⟩)] .none))))))):=eqn Tryz.f438
theorem iu.eq:Eqn (Q [iU.spec,mG.spec,dQ.spec,cf.spec,fg.spec,kN.spec,fk.spec]) iu.spec (.r (.two (.l (.piece [(.nrm,⟨[(12,vb)],rg 7 5,[],[]⟩)] .none)) (.r (.l (.l (.piece [(.nrm,⟨[(25,vb)],rg 19 6,[],[]⟩)] .none)))))):=eqn Tryz.f81
theorem fY.eq:Eqn (Q []) fY.spec (.r (.l (.r (.l (.loop ⟨[(8,vi)],[2,3,5]++rg 9 8,[],[]⟩ [(.ext 0,⟨[],[2,3,5]++rg 8 9,[],[]⟩),(.ret,⟨[(2,(false,(.frz (.int .i32)))),(3,vi)],[5]++rg 8 9,[],[]⟩)] .none))))):=eqn Tryz.f138
theorem parse_parser_cond.eq (G:bu):Eqn (Q [az.spec,parse_parser_assign.spec G,parse_parser_either.spec G,af.spec,aM.spec]) (parse_parser_cond.g.sp 246 fun x=>R.parse_parser_cond G x) .none:=eqn Tryz.f246
theorem iC.eq:Eqn (Q [bN.spec]) iC.spec (.r (.r (.l (.r (.l (.loop ⟨[(5,(false,(.own .y))),(9,vi)],[6]++rg 10 11,[],[]⟩ [(.ext 0,⟨[(5,(false,(.own .y)))],[6]++rg 9 12,[],[]⟩)] .none)))))):=eqn Tryz.f431
theorem eval_run_binary.eq (G:au):Eqn (Q [eval_run_expression.spec G,iW.spec,bm.spec,gM.spec]) (eval_run_binary.g.sp 275 fun x=>R.eval_run_binary G x.1 x.2.1 x.2.2) .none:=eqn Tryz.f275
theorem dD.eq:Eqn ({ P:=Tryz.prog,specs:=[],ety:=pO Tryz.prog owned,inls:=[zT 111 (pd.env Tryz.prog) Tryz.f111 .none] }:Env) dD.spec .none:=eqn Tryz.f380
theorem aU.eq:Eqn (Q [aW.spec]) aU.spec .none:=eqn Tryz.f435
theorem gA.eq:Eqn (Q [bw.spec,bY.spec,aK.spec,ai.spec,eI.spec,gf.spec]) gA.spec .none:=eqn Tryz.f342
theorem bj.eq:Eqn (Q [jb 80 (.int .u16),bB.spec,dA.spec,dJ.spec]) bj.spec .none:=eqn Tryz.f167
theorem kV.eq:Eqn (Q [jm.spec,iq.spec,iU.spec,cf.spec,fg.spec,lG.spec]) kV.spec .none:=eqn Tryz.f318
theorem dA.eq:Eqn (Q [aZ.spec]) dA.spec .none:=eqn Tryz.f191
theorem cQ.eq:Eqn (Q [bl.spec,bP.spec,kP.spec]) cQ.spec .none:=eqn Tryz.f334
theorem dt.eq:Eqn (Q [aT.spec,fI.spec]) dt.spec .none:=eqn Tryz.f234
theorem iN.eq:Eqn (Q [da.spec,eH.spec,iH.spec]) iN.spec .none:=eqn Tryz.f282
theorem fS.eq:Eqn (Q [lD.spec,c7.spec]) fS.spec .none:=eqn Tryz.f18
theorem kG.eq:Eqn (Q [bw.spec,cm.spec]) kG.spec .none:=eqn Tryz.f327
theorem kh.eq:Eqn (Q [cR.spec]) kh.spec .none:=eqn Tryz.f359
theorem j8.eq:Eqn (Q [jb 70 (.int .u32)]) j8.spec .none:=eqn Tryz.f46
theorem jc.eq:Eqn (Q [gR.spec]) jc.spec .none:=eqn Tryz.f345
theorem lK.eq:Eqn (Q [kY.spec]) lK.spec .none:=eqn Tryz.f410
theorem iJ.eq:Eqn (Q []) iJ.spec .none:=eqn Tryz.f31
theorem jU.eq:Eqn (Q []) jU.spec .none:=eqn Tryz.f113
theorem jC.eq:Eqn (Q []) jC.spec .none:=eqn Tryz.f341
theorem bU.eq:Eqn (Q []) bU.spec .none:=eqn Tryz.f335
end Go.Mach

