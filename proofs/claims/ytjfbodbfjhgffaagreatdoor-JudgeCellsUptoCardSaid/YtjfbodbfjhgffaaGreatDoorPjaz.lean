/-
  A part of the proofs of renlaw25.JudgeErases and renlaw25.JudgeCells: each law returns true for every input of the stated bulk and leaves its arguments as they were; no further condition.
  By an AI agent; no person has read it.
-/
import Derived.Test.YtjfbodbfjhgffaaGreatDoorPjai
import Derived.KernelRfl
import Derived.Test.YtjfbodbfjhgffaaGreatDoorProg
set_option linter.all false
set_option linter.deprecated false
set_option linter.unusedVariables false
set_option maxRecDepth 100000
namespace Go.Mach
open Go.Proofs
theorem shared_New.eq:Eqn (Q L1) shared_New.spec (zA 0x2114821a8e82082021211482198f8208267915212121000582810f81014231):=eqn Tryz.f54
theorem event_fields.eq:Eqn (Q L1) event_fields.spec (zA 0x4bd1651014200047d164101431000698b106d10142300070b107b101422110002ca10ba101431121002b61031100582a462002431):=eqn Tryz.f48
theorem renref18_Clean.eq:Eqn (Q L3) renref18_Clean.spec (zA 0x58d910aa10142122100295823820181100295822118302200295813118363815212100075810c81014231):=eqn Tryz.f20
theorem renlaw25_JudgeErases.eq:Eqn (Q L19) renlaw25_JudgeErases.spec (zA 0xc959109b10142221003a981620311003a9813133022003ac8132661521211111):=eqn Tryz.f3
theorem parse_parser_statement.eq(G:G_parseG):Eqn (Q (M_parseG G++L4)) (parse_parser_statement.g.sp 271 λx=>R.parse_parser_statement G x) (zA 0x808107101422211):=eqn Tryz.f271
theorem judge_Erase.eq:Eqn (Q L0) judge_Erase.spec (zA 0x75810c810142122110098316228412100884162662842521211):=eqn Tryz.f6
theorem slices_EqualFunc_sbyte__bytes_Equal.eq:Eqn (Q L1) slices_EqualFunc_sbyte__bytes_Equal.spec (zA 0x7808308207110078084720220068184726a81521211):=eqn Tryz.f76
theorem num_Add.eq:Eqn (Q L2) num_Add.spec (zA 0x83a102a1014211111000d8481038101432211):=eqn Tryz.f531
theorem rel_empty.eq:Eqn (Q L0) rel_empty.spec (zA 0xf90168381520210f90158481526881521211):=eqn Tryz.f191
theorem slices_EqualFunc_evalAns__judge_answer.eq:Eqn (Q L0) slices_EqualFunc_evalAns__judge_answer.spec (zA 0x78084720210068184726a81521211):=eqn Tryz.f83
theorem eval_run_statement.eq(G:G_evalG):Eqn (Q (M_evalG G++L10)) (eval_run_statement.g.sp 339 λx=>R.eval_run_statement G x.1 x.2.1 x.2.2.1 x.2.2.2) .none:=eqn Tryz.f339
theorem wait_New.eq:Eqn ({ P:=Tryz.prog,specs:=[],ety:=etyOf Tryz.prog owned,maps:=mapsOf,kok:=mapsOk }:Env) wait_New.spec .none:=eqn Tryz.f53
theorem lex_reader_strange.eq:Eqn (Q (lex_reader_is__lex_reader_strange_1.spec::L2)) lex_reader_strange.spec .none:=eqn Tryz.f310
theorem lex_reader_is__lex_letter.eq:Eqn (Q L1) lex_reader_is__lex_letter.spec .none:=eqn Tryz.f263
theorem cluster_Cluster_Log.eq:Eqn (Q (shared_Shared_Log.spec::L3)) cluster_Cluster_Log.spec .none:=eqn Tryz.f29
theorem judge_Cells_1.eq:Eqn (Q L3) judge_Cells_1.spec .none:=eqn Tryz.f16
theorem cluster_Cluster_has_1.eq:Eqn (Q L0) cluster_Cluster_has_1.spec .none:=eqn Tryz.f112
theorem cluster_Cluster_Len.eq:Eqn (Q L0) cluster_Cluster_Len.spec .none:=eqn Tryz.f72
theorem tree_Statement.eq:Eqn (Q L0) tree_Statement.spec .none:=eqn Tryz.f330
theorem event_Writes.eq:Eqn (Q L0) event_Writes.spec .none:=eqn Tryz.f102
theorem lex_blank.eq:Eqn (Q L0) lex_blank.spec .none:=eqn Tryz.f254
theorem conv_Num.eq:Eqn (Q L0) conv_Num.spec .none:=eqn Tryz.f456
end Go.Mach

