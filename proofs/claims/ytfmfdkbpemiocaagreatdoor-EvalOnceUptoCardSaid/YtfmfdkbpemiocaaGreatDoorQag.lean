/-
  Proved here: the law renlaw12.EvalOnce returns true for every input of the stated bulk and leaves its arguments as they were; no further condition.
  By an AI agent; no person has read it.
-/
import Derived.Test.YtfmfdkbpemiocaaGreatDoorQaf
import Derived.KernelRfl
import Derived.Test.YtfmfdkbpemiocaaGreatDoorProg
set_option linter.all false
set_option linter.deprecated false
set_option linter.unusedVariables false
set_option maxRecDepth 100000
namespace Go.Mach
open Go.Proofs
theorem aH.eq(fu:Nat):Eqn (Q ((aH.spec fu)::L3)) (aH.g.sp 453 λx=>R.aH (fu+1) x.1 x.2.1 x.2.2.1 x.2.2.2.1 x.2.2.2.2) (zA 0x776e14e6e10142000795e1406e1014201016895e1001430007b4e1425e10142010168b4e10014310002961e121e830d81281002961e1092020d8252310001832e1020d82014311100101d83d1a8200810101d850e10a81521200009bb28820781610009bb19820207825231121300101e82a16820410101e80b106815212000f8b8248203812100f8b8158202038252311213):=eqn Tryz.f453
theorem ja.eq:Eqn (Q L1) ja.spec (zA 0x28c147c10142111110003db14cb10143100029b148b1014311111110002ca14ba1014311111111111110002f814e81014310002b814a810143100054814381014310002181408101432121):=eqn Tryz.f74
theorem eval_run_act.eq(G:af):Eqn (Q (eu G++L10)) (eval_run_act.g.sp 119 λx=>R.eval_run_act G x.1 x.2.1 x.2.2.1 x.2.2.2) (zA 0x1862e14f2e101422121111111111111111110002ea14da101431111212111):=eqn Tryz.f119
theorem eval_run_value.eq(G:af):Eqn (Q (eu G++L10)) (eval_run_value.g.sp 189 λx=>R.eval_run_value G x.1 x.2.1 x.2.2) (zA 0x2cc14bc1014211111111100025a144a101431111111121211):=eqn Tryz.f189
theorem nE.eq:Eqn (Q L2) nE.spec (zA 0x5fb144c10142210006da14ca10142100064a143a101431000e8c814b81014323111):=eqn Tryz.f344
theorem parse_parser_word.eq(G:bl):Eqn (Q (ib G++L5)) (parse_parser_word.g.sp 181 λx=>R.parse_parser_word G x.1 x.2) (zA 0x370e1460e101421100036d1001421311111111111112121):=eqn Tryz.f181
theorem eval_run_called.eq(G:af):Eqn (Q (eu G++L10)) (eval_run_called.g.sp 281 λx=>R.eval_run_called G x.1 x.2.1 x.2.2) (zA 0x248147832208fa10781014211000709147910142311):=eqn Tryz.f281
def eC.ann:Ann:=(.r (.l (.r (.l (.two (pc [(6,vb)] (rg 7 5)) (.r (.l (pc [(15,vb)] (rg 16 4)))))))))
theorem eC.eq_(g_lex_Name:type_of% R.iZ)(g_lex_Run:type_of% R.jH)(g_slices_Contains_string:type_of% R.aS):Eqn ({ P:=Tryz.prog,specs:=[(iZ.g.sp 102 λx=>g_lex_Name x),(jH.g.sp 103 λx=>g_lex_Run x),(aS.g.sp 78 λx=>g_slices_Contains_string x.1 x.2)],ety:=pj Tryz.prog owned,inls:=[An 104 (qA.env Tryz.prog) Tryz.f104 .none] }:Env) (eC.g.sp 73 λx=>Res.given (eC.g.i x) (Res.bind (α:=Bool) (Res.br (x.1 == 7) (Res.ok ((x.1 == 7))) (Res.br (x.1 == 18) (Res.ok ((x.1 == 18))) (Res.br (x.1 == 19) (Res.ok ((x.1 == 19))) (Res.br (x.1 == 20) (Res.ok ((x.1 == 20))) (Res.ok ((x.1 == 33))))))) λx1=>Res.br x1 (Res.bind (g_lex_Name x.2.1) λr2=>Res.ok (r2)) (Res.bind (α:=Bool) (Res.br (x.1 == 12) (Res.ok ((x.1 == 12))) (Res.br (x.1 == 13) (Res.ok ((x.1 == 13))) (Res.br (x.1 == 17) (Res.ok ((x.1 == 17))) (Res.ok ((x.1 == 41)))))) λx3=>Res.br x3 (Res.br (x.2.1 == ([]:List UInt8)) (Res.ok (true)) (Res.bind (g_lex_Name x.2.1) λr4=>Res.ok (r4))) (Res.br (x.1 == 52) (Res.bind (g_lex_Run x.2.1) λr5=>Res.ok (r5)) (Res.br (x.1 == 43) (Res.bind (g_slices_Contains_string [[45],[43],[33],[126],[116,121,112,101,111,102],[118,111,105,100]] x.2.1) λr6=>Res.ok (r6)) (Res.br (x.1 == 44) (Res.br (x.1 == 44) (Res.bind (g_slices_Contains_string [[43,43],[45,45]] x.2.1) λr7=>Res.ok (r7)) (Res.br (x.1 == 46) (Res.bind (g_slices_Contains_string [[43],[45],[42],[47],[37],[38],[124],[94],[60,60],[62,62],[62,62,62],[60],[62],[60,61],[62,61],[61,61],[33,61],[61,61,61],[33,61,61],[105,110]] x.2.1) λr8=>Res.ok (r8)) (Res.br (x.1 == 47) (Res.bind (g_slices_Contains_string [[38,38],[124,124],[63,63]] x.2.1) λr9=>Res.ok (r9)) (Res.br (x.1 == 49) (Res.bind (g_slices_Contains_string [[61],[43,61],[45,61],[42,61],[47,61],[37,61],[38,61],[124,61],[94,61],[60,60,61],[62,62,61],[62,62,62,61]] x.2.1) λr10=>Res.ok (r10)) (Res.ok ((x.2.1 == ([]:List UInt8)))))))) (Res.br (x.1 == 45) (Res.bind (g_slices_Contains_string [[43,43],[45,45]] x.2.1) λr11=>Res.ok (r11)) (Res.br (x.1 == 46) (Res.bind (g_slices_Contains_string [[43],[45],[42],[47],[37],[38],[124],[94],[60,60],[62,62],[62,62,62],[60],[62],[60,61],[62,61],[61,61],[33,61],[61,61,61],[33,61,61],[105,110]] x.2.1) λr12=>Res.ok (r12)) (Res.br (x.1 == 47) (Res.bind (g_slices_Contains_string [[38,38],[124,124],[63,63]] x.2.1) λr13=>Res.ok (r13)) (Res.br (x.1 == 49) (Res.bind (g_slices_Contains_string [[61],[43,61],[45,61],[42,61],[47,61],[37,61],[38,61],[124,61],[94,61],[60,60,61],[62,62,61],[62,62,62,61]] x.2.1) λr14=>Res.ok (r14)) (Res.ok ((x.2.1 == ([]:List UInt8)))))))))))))) eC.ann:=eqn Tryz.f73
theorem eC.eq:Eqn ({ P:=Tryz.prog,specs:=[iZ.spec,jH.spec,aS.spec],ety:=pj Tryz.prog owned,inls:=[An 104 (qA.env Tryz.prog) Tryz.f104 .none] }:Env) eC.spec eC.ann:=eC.eq_ R.iZ R.jH R.aS
theorem cf.eq:Eqn (Q L6) cf.spec (zA 0x2114432278222820081104512628222830024211):=eqn Tryz.f359
theorem cX.eq:Eqn (Q L5) cX.spec (zA 0x28dc128a8101421111111):=eqn Tryz.f415
theorem kL.eq:Eqn (Q L0) kL.spec (zA 0x182814b81014212211006831424311006832320220058423207152121):=eqn Tryz.f234
theorem eval_run_call.eq(G:af):Eqn (Q (eu G++L10)) (eval_run_call.g.sp 282 λx=>R.eval_run_call G x.1 x.2.1 x.2.2.1 x.2.2.2) .none:=eqn Tryz.f282
theorem eB.eq:Eqn (Q L0) eB.spec (zA 0x48081520412100485810204252121000361001431):=eqn Tryz.f52
theorem iT.eq:Eqn (Q L0) iT.spec (zA 0x76145810142200c8510412100b86102042521211):=eqn Tryz.f9
theorem dU.eq:Eqn (Q L3) dU.spec (zA 0x60168614c81014221):=eqn Tryz.f140
theorem cx.eq:Eqn ({ P:=Tryz.prog,specs:=[],ety:=pj Tryz.prog owned,inls:=[An 65 (qG.env Tryz.prog) Tryz.f65 .none] }:Env) cx.spec .none:=eqn Tryz.f368
theorem cb.eq:Eqn (Q L7) cb.spec .none:=eqn Tryz.f323
theorem au.eq:Eqn (Q L4) au.spec .none:=eqn Tryz.f82
theorem fl.eq:Eqn (Q L2) fl.spec (zA 0x86146810142211):=eqn Tryz.f284
theorem lT.eq:Eqn (Q L0) lT.spec (zA 0x498148810142112121):=eqn Tryz.f71
theorem fX.eq:Eqn (Q (ay.spec::L2)) fX.spec .none:=eqn Tryz.f167
theorem bT.eq:Eqn (Q L1) bT.spec .none:=eqn Tryz.f366
theorem eZ.eq:Eqn (Q L16) eZ.spec .none:=eqn Tryz.f7
theorem kS.eq:Eqn (Q L2) kS.spec .none:=eqn Tryz.f399
theorem ig.eq:Eqn (Q L2) ig.spec .none:=eqn Tryz.f436
theorem kM.eq:Eqn (Q L4) kM.spec .none:=eqn Tryz.f352
theorem dM.eq:Eqn (Q L0) dM.spec .none:=eqn Tryz.f437
theorem gK.eq:Eqn (Q L1) gK.spec .none:=eqn Tryz.f351
theorem aW.eq:Eqn (Q L0) aW.spec .none:=eqn Tryz.f99
theorem iK.eq:Eqn (Q L1) iK.spec .none:=eqn Tryz.f125
theorem jo.eq:Eqn (Q L0) jo.spec .none:=eqn Tryz.f199
theorem mU.eq:Eqn (Q L0) mU.spec .none:=eqn Tryz.f127
theorem cn.eq:Eqn (Q L0) cn.spec .none:=eqn Tryz.f219
end Go.Mach

