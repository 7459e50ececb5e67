/-
  A part of the proofs of renlaw25.JudgeErases and renlaw25.JudgeCells: each law returns true for every input of the stated bulk and leaves its arguments as they were; no further condition.
  By an AI agent; no person has read it.
-/
import Derived.Test.YtjfbodbfjhgffaaGreatDoorPjai
import Derived.KernelRfl
import Derived.Test.YtjfbodbfjhgffaaGreatDoorProg
set_option linter.all false
set_option linter.deprecated false
set_option linter.unusedVariables false
set_option maxRecDepth 100000
namespace Go.Mach
open Go.Proofs
theorem shared_New_1.eq:Eqn (Q L1) shared_New_1.spec (zA 0x2114821a8e82082021211482198f8208267915212121000582810f81014231):=eqn Tryz.f54
theorem rel_Sync.eq:Eqn (Q L4) rel_Sync.spec (zA 0x380b128206100281b12826ab15212000e8a9100b10142122110089e810820410079f81082669152112211001a6812253021000a78122536e815213111):=eqn Tryz.f129
theorem parse_parser_primary.eq(G:G_parseG):Eqn (Q (M_parseG G++L4)) (parse_parser_primary.g.sp 517 λx=>R.parse_parser_primary G x) (zA 0x57d10cd101422100040c10014212111111111111121311111):=eqn Tryz.f517
theorem parse_parser_calls.eq(G:G_parseG):Eqn (Q (M_parseG G++L4)) (parse_parser_calls.g.sp 471 λx=>R.parse_parser_calls G x) (zA 0x68358029832520210683580298325205221121):=eqn Tryz.f471
theorem renref14_read.eq:Eqn (Q L1) renref14_read.spec (zA 0x5a99106c101421122100ab5272051100ab52215302200ab513153671521211):=eqn Tryz.f44
theorem parse_parser_member.eq(G:G_parseG):Eqn (Q (M_parseG G++L4)) (parse_parser_member.g.sp 490 λx=>R.parse_parser_member G x.1 x.2) (zA 0x75810c8101422121221):=eqn Tryz.f490
theorem lex_reader_number.eq:Eqn (Q (lex_reader_is__lex_letter.spec::L5)) lex_reader_number.spec (zA 0x76810581014222111):=eqn Tryz.f261
theorem lex_reader_run__lex_digit.eq:Eqn (Q (lex_reader_is__lex_digit.spec::L2)) lex_reader_run__lex_digit.spec (zA 0x590109716b61210590109716b6152211):=eqn Tryz.f306
theorem shared_Shared_Pending_1.eq:Eqn ({ P:=Tryz.prog,specs:=[fifo_Queue_Len.spec],ety:=etyOf Tryz.prog owned,inls:=[inlFn 119 (shared_Shared_Pending_1_in.env Tryz.prog) Tryz.f119 .none] }:Env) shared_Shared_Pending_1.spec .none:=eqn Tryz.f137
theorem slices_Index_string.eq:Eqn (Q L0) slices_Index_string.spec (zA 0x38316265110038325202200284252618152121):=eqn Tryz.f334
theorem lex_Sign.eq:Eqn (Q L0) lex_Sign.spec (zA 0x71b100b101421000aa6105101432121):=eqn Tryz.f314
theorem tree_operators.eq:Eqn (Q L0) tree_operators.spec (zA 0x218100810142112121):=eqn Tryz.f328
theorem post_New.eq:Eqn (Q L0) post_New.spec (zA 0x5510281014221):=eqn Tryz.f55
theorem cluster_Cluster_Do_1.eq:Eqn (Q (cluster_Cluster_step_1.spec::L4)) cluster_Cluster_Do_1.spec .none:=eqn Tryz.f27
theorem tree_fits.eq:Eqn (Q L1) tree_fits.spec .none:=eqn Tryz.f277
theorem fifo_Queue_Copy.eq:Eqn (Q L1) fifo_Queue_Copy.spec .none:=eqn Tryz.f251
theorem text_Same.eq:Eqn (Q L1) text_Same.spec .none:=eqn Tryz.f367
theorem shared_Shared_agent.eq:Eqn (Q L0) shared_Shared_agent.spec .none:=eqn Tryz.f184
theorem renref14_Covers.eq:Eqn (Q L0) renref14_Covers.spec .none:=eqn Tryz.f99
theorem num_as.eq:Eqn (Q L1) num_as.spec .none:=eqn Tryz.f394
theorem tree_kinds.eq:Eqn (Q L0) tree_kinds.spec .none:=eqn Tryz.f276
theorem heap_New.eq:Eqn (Q L0) heap_New.spec .none:=eqn Tryz.f216
end Go.Mach

