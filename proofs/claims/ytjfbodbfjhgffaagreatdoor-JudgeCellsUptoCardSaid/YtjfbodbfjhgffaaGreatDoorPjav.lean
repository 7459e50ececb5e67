/-
  A part of the proofs of renlaw25.JudgeErases and renlaw25.JudgeCells: each law returns true for every input of the stated bulk and leaves its arguments as they were; no further condition.
  By an AI agent; no person has read it.
-/
import Derived.Test.YtjfbodbfjhgffaaGreatDoorPjai
import Derived.KernelRfl
import Derived.Test.YtjfbodbfjhgffaaGreatDoorProg
set_option linter.all false
set_option linter.deprecated false
set_option linter.unusedVariables false
set_option maxRecDepth 100000
namespace Go.Mach
open Go.Proofs
theorem parse_parser_either.eq(G:G_parseG):Eqn (Q (M_parseG G++L4)) (parse_parser_either.g.sp 417 λx=>R.parse_parser_either G x) (zA 0x68358021849104106835802184910522100058810d810142006881001420068358027181021068358027181052321311):=eqn Tryz.f417
theorem renref24_Cells.eq:Eqn (Q L4) renref24_Cells.spec (zA 0x395a100c1014220003879102a10142200687916081410068791608152311122100fb445228412100fb43626228425212111):=eqn Tryz.f11
theorem lex_reader_pass.eq:Eqn (Q L1) lex_reader_pass.spec (zA 0x6ba10aa101420005e91061014230006891079101432212105901bb23320612105901bb23320615221121):=eqn Tryz.f200
theorem renlaw25_JudgeCells.eq:Eqn (Q L19) renlaw25_JudgeCells.spec (zA 0x4959101b1014222100b998162031100b9981313302200b9c8132661521211111):=eqn Tryz.f4
theorem cluster_Cluster_View_1.eq:Eqn (Q (cluster_Cluster_has_1.spec::cluster_Cluster_status_1.spec::shared_Shared_Pending_1.spec::L3)) cluster_Cluster_View_1.spec (zA 0x77a10ea101422007a8168991001431111):=eqn Tryz.f79
def tree_named.ann:Ann:=(.r (.l (.r (.l (.two (pc [(6,vb)] (rg 7 5)) (.r (.l (pc [(15,vb)] (rg 16 4)))))))))
theorem tree_named.eq_(g_slices_Contains_string:type_of% R.slices_Contains_string):Eqn ({ P:=Tryz.prog,specs:=[(slices_Contains_string.g.sp 279 λx=>g_slices_Contains_string x.1 x.2)],ety:=etyOf Tryz.prog owned,inls:=[inlFn 328 (tree_named_in.env Tryz.prog) Tryz.f328 .none] }:Env) (tree_named.g.sp 274 λx=>Res.given (tree_named.g.i x) (Res.bind (α:=Bool) (Res.br (x.1 == 7) (Res.ok ((x.1 == 7))) (Res.br (x.1 == 18) (Res.ok ((x.1 == 18))) (Res.br (x.1 == 19) (Res.ok ((x.1 == 19))) (Res.br (x.1 == 20) (Res.ok ((x.1 == 20))) (Res.ok ((x.1 == 33))))))) λx1=>Res.br x1 (Res.stuck) (Res.bind (α:=Bool) (Res.br (x.1 == 12) (Res.ok ((x.1 == 12))) (Res.br (x.1 == 13) (Res.ok ((x.1 == 13))) (Res.br (x.1 == 17) (Res.ok ((x.1 == 17))) (Res.ok ((x.1 == 41)))))) λx2=>Res.br x2 (Res.br (x.2.1 == ([]:List UInt8)) (Res.ok (true)) (Res.stuck)) (Res.br (x.1 == 52) (Res.stuck) (Res.br (x.1 == 43) (Res.bind (g_slices_Contains_string [[45],[43],[33],[126],[116,121,112,101,111,102],[118,111,105,100]] x.2.1) λr3=>Res.ok (r3)) (Res.br (x.1 == 44) (Res.br (x.1 == 44) (Res.bind (g_slices_Contains_string [[43,43],[45,45]] x.2.1) λr4=>Res.ok (r4)) (Res.br (x.1 == 46) (Res.bind (g_slices_Contains_string [[43],[45],[42],[47],[37],[38],[124],[94],[60,60],[62,62],[62,62,62],[60],[62],[60,61],[62,61],[61,61],[33,61],[61,61,61],[33,61,61],[105,110]] x.2.1) λr5=>Res.ok (r5)) (Res.br (x.1 == 47) (Res.bind (g_slices_Contains_string [[38,38],[124,124],[63,63]] x.2.1) λr6=>Res.ok (r6)) (Res.br (x.1 == 49) (Res.bind (g_slices_Contains_string [[61],[43,61],[45,61],[42,61],[47,61],[37,61],[38,61],[124,61],[94,61],[60,60,61],[62,62,61],[62,62,62,61]] x.2.1) λr7=>Res.ok (r7)) (Res.ok ((x.2.1 == ([]:List UInt8)))))))) (Res.br (x.1 == 45) (Res.bind (g_slices_Contains_string [[43,43],[45,45]] x.2.1) λr8=>Res.ok (r8)) (Res.br (x.1 == 46) (Res.bind (g_slices_Contains_string [[43],[45],[42],[47],[37],[38],[124],[94],[60,60],[62,62],[62,62,62],[60],[62],[60,61],[62,61],[61,61],[33,61],[61,61,61],[33,61,61],[105,110]] x.2.1) λr9=>Res.ok (r9)) (Res.br (x.1 == 47) (Res.bind (g_slices_Contains_string [[38,38],[124,124],[63,63]] x.2.1) λr10=>Res.ok (r10)) (Res.br (x.1 == 49) (Res.bind (g_slices_Contains_string [[61],[43,61],[45,61],[42,61],[47,61],[37,61],[38,61],[124,61],[94,61],[60,60,61],[62,62,61],[62,62,62,61]] x.2.1) λr11=>Res.ok (r11)) (Res.ok ((x.2.1 == ([]:List UInt8)))))))))))))) tree_named.ann:=eqn Tryz.f274
theorem tree_named.eq:Eqn ({ P:=Tryz.prog,specs:=[slices_Contains_string.spec],ety:=etyOf Tryz.prog owned,inls:=[inlFn 328 (tree_named_in.env Tryz.prog) Tryz.f328 .none] }:Env) tree_named.spec tree_named.ann:=tree_named.eq_ R.slices_Contains_string
theorem agent_Agent_Answers.eq:Eqn (Q L0) agent_Agent_Answers.spec (zA 0x992158082520210992148182526681521211):=eqn Tryz.f144
theorem race_First.eq:Eqn (Q L7) race_First.spec (zA 0x86810e8101421221100984162641210088516267642521211):=eqn Tryz.f35
theorem early_twice.eq:Eqn (Q L2) early_twice.spec (zA 0x38324203110038333202200284332608152121):=eqn Tryz.f209
theorem slices_Equal_2int.eq:Eqn (Q L0) slices_Equal_2int.spec (zA 0x580816205110058082520220048182526681521211):=eqn Tryz.f135
theorem parse_parser_cond.eq(G:G_parseG):Eqn (Q (M_parseG G++L4)) (parse_parser_cond.g.sp 377 λx=>R.parse_parser_cond G x) .none:=eqn Tryz.f377
theorem shared_Shared_Copy.eq:Eqn (Q (shared_Shared_Log.spec::L3)) shared_Shared_Copy.spec (zA 0x721211):=eqn Tryz.f193
theorem agent_New.eq:Eqn (Q L14) agent_New.spec .none:=eqn Tryz.f56
theorem heap_own.eq:Eqn (Q L0) heap_own.spec .none:=eqn Tryz.f388
theorem cluster_Cluster_over.eq:Eqn (Q L1) cluster_Cluster_over.spec .none:=eqn Tryz.f117
theorem early_hides_1.eq:Eqn (Q L2) early_hides_1.spec .none:=eqn Tryz.f284
theorem oper_numerics.eq:Eqn (Q L7) oper_numerics.spec .none:=eqn Tryz.f565
theorem cluster_Cluster_Said.eq:Eqn (Q L0) cluster_Cluster_Said.spec .none:=eqn Tryz.f75
theorem eval_run_begins.eq:Eqn (Q L0) eval_run_begins.spec .none:=eqn Tryz.f391
theorem cmp_isNaN_int.eq:Eqn (Q L0) cmp_isNaN_int.spec .none:=eqn Tryz.f96
theorem text_blank.eq:Eqn (Q L0) text_blank.spec .none:=eqn Tryz.f365
theorem eval_May.eq:Eqn (Q L0) eval_May.spec .none:=eqn Tryz.f104
end Go.Mach

