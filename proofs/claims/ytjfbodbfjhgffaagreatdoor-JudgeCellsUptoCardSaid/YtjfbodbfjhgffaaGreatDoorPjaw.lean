/-
  A part of the proofs of renlaw25.JudgeErases and renlaw25.JudgeCells: each law returns true for every input of the stated bulk and leaves its arguments as they were; no further condition.
  By an AI agent; no person has read it.
-/
import Derived.Test.YtjfbodbfjhgffaaGreatDoorPjai
import Derived.KernelRfl
import Derived.Test.YtjfbodbfjhgffaaGreatDoorProg
set_option linter.all false
set_option linter.deprecated false
set_option linter.unusedVariables false
set_option maxRecDepth 100000
namespace Go.Mach
open Go.Proofs
theorem tree_shape.eq:Eqn (Q L0) tree_shape.spec (zA 0x28c107c10142111110003db10cb10143100029b108b1014311111110002ca10ba1014311111111111110002f810e81014310002b810a810143100054810381014310002181008101432121):=eqn Tryz.f275
theorem shared_Shared_Final.eq:Eqn (Q (shared_Shared_Bytes.spec::shared_Shared_Copy.spec::shared_Shared_drain.spec::L4)) shared_Shared_Final.spec (zA 0x461a918177152021461a91816081526481521211):=eqn Tryz.f136
theorem eval_run_act.eq(G:G_evalG):Eqn (Q (M_evalG G++L10)) (eval_run_act.g.sp 392 λx=>R.eval_run_act G x.1 x.2.1 x.2.2.1 x.2.2.2) (zA 0x1862e10f2e101422121111111111111111110002ea10da101431111212111):=eqn Tryz.f392
theorem text_Units.eq:Eqn (Q L1) text_Units.spec (zA 0x6e910d91014222121003a44626262aa331003a432333aa6122003a42333362aa625212111):=eqn Tryz.f105
theorem cluster_Cluster_Tree.eq:Eqn (Q (cluster_Cluster_has.spec::L2)) cluster_Cluster_Tree.spec (zA 0x780168610c81014221):=eqn Tryz.f82
theorem lex_Tokens.eq:Eqn (Q L7) lex_Tokens.spec (zA 0x11101a75726262eb33110c9011a743333eb71521111):=eqn Tryz.f151
theorem lex_reader_has.eq:Eqn (Q L0) lex_reader_has.spec (zA 0x6948102a101421221100b93162051100b9325202200a94252618152121):=eqn Tryz.f256
theorem slices_IndexFunc_int__judge_Judge_1.eq:Eqn (Q L1) slices_IndexFunc_int__judge_Judge_1.spec (zA 0x38316265110038325202200284252618152121):=eqn Tryz.f36
theorem cluster_New.eq:Eqn ({ P:=Tryz.prog,specs:=[agent_New.spec,cluster_May.spec,early_Accept.spec,post_New.spec,shared_New.spec,wait_New.spec],ety:=etyOf Tryz.prog owned,maps:=mapsOf,kok:=mapsOk }:Env) cluster_New.spec .none:=eqn Tryz.f26
theorem slices_Equal_int.eq:Eqn (Q L0) slices_Equal_int.spec (zA 0x580816205110058082520220048182526681521211):=eqn Tryz.f142
theorem parse_parser_simple.eq(G:G_parseG):Eqn (Q (M_parseG G++L4)) (parse_parser_simple.g.sp 325 λx=>R.parse_parser_simple G x) .none:=eqn Tryz.f325
theorem parse_Parse.eq:Eqn (Q L8) parse_Parse.spec .none:=eqn Tryz.f106
theorem event_Same.eq:Eqn (Q L1) event_Same.spec .none:=eqn Tryz.f73
theorem cluster_Cluster_Events.eq:Eqn (Q (shared_Shared_Events.spec::L1)) cluster_Cluster_Events.spec .none:=eqn Tryz.f28
theorem cluster_Cluster_Do.eq:Eqn (Q (cluster_Cluster_step.spec::L4)) cluster_Cluster_Do.spec .none:=eqn Tryz.f27
theorem shared_Shared_Log_1.eq:Eqn (Q L2) shared_Shared_Log_1.spec .none:=eqn Tryz.f62
theorem shared_Shared_Events_1.eq:Eqn (Q L0) shared_Shared_Events_1.spec .none:=eqn Tryz.f61
theorem cluster_Cluster_has.eq:Eqn (Q L0) cluster_Cluster_has.spec .none:=eqn Tryz.f112
theorem eval_run_result.eq:Eqn (Q L0) eval_run_result.spec .none:=eqn Tryz.f495
theorem judge_Judge_1.eq:Eqn (Q L0) judge_Judge_1.spec .none:=eqn Tryz.f37
theorem text_digit.eq:Eqn (Q L0) text_digit.spec .none:=eqn Tryz.f370
theorem lex_line.eq:Eqn (Q L0) lex_line.spec .none:=eqn Tryz.f255
end Go.Mach

