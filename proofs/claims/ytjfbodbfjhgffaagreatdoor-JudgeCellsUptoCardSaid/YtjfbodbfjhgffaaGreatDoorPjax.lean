/-
  A part of the proofs of renlaw25.JudgeErases and renlaw25.JudgeCells: each law returns true for every input of the stated bulk and leaves its arguments as they were; no further condition.
  By an AI agent; no person has read it.
-/
import Derived.Test.YtjfbodbfjhgffaaGreatDoorPjai
import Derived.KernelRfl
import Derived.Test.YtjfbodbfjhgffaaGreatDoorProg
set_option linter.all false
set_option linter.deprecated false
set_option linter.unusedVariables false
set_option maxRecDepth 100000
namespace Go.Mach
open Go.Proofs
theorem shared_Shared_Final_1.eq:Eqn (Q (shared_Shared_Bytes_1.spec::shared_Shared_Copy_1.spec::shared_Shared_drain_1.spec::L4)) shared_Shared_Final_1.spec (zA 0x5714838177152021571483816081526481521211):=eqn Tryz.f136
theorem heap_copied.eq:Eqn (Q L1) heap_copied.spec (zA 0xe9081680a2620410e9081581a26267a1521200d97198e82420210d97188f82426391521311):=eqn Tryz.f419
theorem parse_parser_head.eq(G:G_parseG):Eqn (Q (M_parseG G++L4)) (parse_parser_head.g.sp 488 λx=>R.parse_parser_head G x) (zA 0x6845802718152021068458027681051522111):=eqn Tryz.f488
theorem eval_run_declare.eq:Eqn (Q L0) eval_run_declare.spec (zA 0x199915820510009a9158266a1521200021a100a101432111221100db383222108402100cb4832221084629152121):=eqn Tryz.f288
theorem parse_parser_both.eq(G:G_parseG):Eqn (Q (M_parseG G++L4)) (parse_parser_both.g.sp 440 λx=>R.parse_parser_both G x.1 x.2) (zA 0x68158027610210681580276105221):=eqn Tryz.f440
theorem lex_reader_token.eq:Eqn (Q (lex_reader_is__lex_digit.spec::L6)) lex_reader_token.spec (zA 0x62a101a10142100067910691014311112211):=eqn Tryz.f201
theorem slices_EqualFunc_apiNode__tree_Same_1.eq:Eqn (Q L2) slices_EqualFunc_apiNode__tree_Same_1.spec (zA 0x7808308207110078084720220068184726a81521211):=eqn Tryz.f139
theorem early_wrong.eq:Eqn (Q L6) early_wrong.spec (zA 0x2ab109b10142111121200048c8108910142311):=eqn Tryz.f158
theorem model_Natural.eq:Eqn (Q L4) model_Natural.spec (zA 0x861528841210077152608884252121211):=eqn Tryz.f31
theorem slices_Index_uint16.eq:Eqn (Q L0) slices_Index_uint16.spec (zA 0x38316265110038325202200284252618152121):=eqn Tryz.f437
theorem eval_run_binary.eq(G:G_evalG):Eqn (Q (M_evalG G++L10)) (eval_run_binary.g.sp 476 λx=>R.eval_run_binary G x.1 x.2.1 x.2.2) .none:=eqn Tryz.f476
theorem model_Valid.eq:Eqn (Q L8) model_Valid.spec .none:=eqn Tryz.f30
theorem fifo_New.eq:Eqn (Q L0) fifo_New.spec (zA 0x5510281014221):=eqn Tryz.f109
theorem parse_parser_on.eq:Eqn (Q L1) parse_parser_on.spec .none:=eqn Tryz.f320
theorem renlaw25_first.eq:Eqn (Q L18) renlaw25_first.spec .none:=eqn Tryz.f5
theorem renref14_Overlap.eq:Eqn (Q L1) renref14_Overlap.spec .none:=eqn Tryz.f46
theorem cluster_Cluster_Said_1.eq:Eqn (Q L0) cluster_Cluster_Said_1.spec .none:=eqn Tryz.f75
theorem shared_Shared_drain.eq:Eqn (Q L0) shared_Shared_drain.spec .none:=eqn Tryz.f194
theorem renref14_Writes.eq:Eqn (Q L0) renref14_Writes.spec .none:=eqn Tryz.f98
theorem renref18_Good.eq:Eqn (Q L0) renref18_Good.spec .none:=eqn Tryz.f45
theorem parse_made.eq:Eqn (Q L0) parse_made.spec .none:=eqn Tryz.f202
theorem parse_is.eq:Eqn (Q L0) parse_is.spec .none:=eqn Tryz.f265
end Go.Mach

