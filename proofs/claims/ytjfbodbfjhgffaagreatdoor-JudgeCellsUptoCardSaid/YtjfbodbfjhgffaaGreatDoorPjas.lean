/-
  A part of the proofs of renlaw25.JudgeErases and renlaw25.JudgeCells: each law returns true for every input of the stated bulk and leaves its arguments as they were; no further condition.
  By an AI agent; no person has read it.
-/
import Derived.Test.YtjfbodbfjhgffaaGreatDoorPjai
import Derived.KernelRfl
import Derived.Test.YtjfbodbfjhgffaaGreatDoorProg
set_option linter.all false
set_option linter.deprecated false
set_option linter.unusedVariables false
set_option maxRecDepth 100000
namespace Go.Mach
open Go.Proofs
theorem text_Number.eq:Eqn (Q L4) text_Number.spec (zA 0x8db10cb101421120f8119824ca228304110f87122d8ca22830181024210006aa100b101420018aa14a61014311100038f810a91014220098f814a11410098f814a11523000084810c810142200384814a112100384814a115231):=eqn Tryz.f311
theorem renref14_May.eq:Eqn (Q L2) renref14_May.spec (zA 0x98aa10bb101421221006989252031100698922133042006989131336515212000580910d91014222100d858142031100d85823202200d868132641521300018710881014231):=eqn Tryz.f18
theorem event_Head.eq:Eqn (Q L0) event_Head.spec (zA 0xb81a104b10142122110b841793912820410b841694912826d9152120004868108202100387810826e815213111):=eqn Tryz.f189
theorem oper_Binary.eq:Eqn (Q L9) oper_Binary.spec (zA 0x2fd10ed10142111111111111100069a108a1014310004e910d9101430007a810191014223121211):=eqn Tryz.f504
theorem parse_parser_assign.eq(G:G_parseG):Eqn (Q (M_parseG G++L4)) (parse_parser_assign.g.sp 317 λx=>R.parse_parser_assign G x) (zA 0x86a10ea101422111000581810e810142131):=eqn Tryz.f317
theorem cluster_Cluster_status_1.eq:Eqn (Q (cluster_Cluster_over_1.spec::L2)) cluster_Cluster_status_1.spec (zA 0x382b101b101421000584a103a101431000586910591014311221111):=eqn Tryz.f113
theorem agent_tree.eq:Eqn (Q L0) agent_tree.spec (zA 0x93189082520210093179182526681521211):=eqn Tryz.f110
theorem slices_IndexFunc_uint16__text_Number_1.eq:Eqn (Q L2) slices_IndexFunc_uint16__text_Number_1.spec (zA 0x38316265110038325202200284252618152121):=eqn Tryz.f410
theorem slices_Compare_int.eq:Eqn (Q L2) slices_Compare_int.spec (zA 0xc83462651100c8355202200b84552648152121):=eqn Tryz.f17
theorem slices_Equal_uint16.eq:Eqn (Q L0) slices_Equal_uint16.spec (zA 0x580816205110058082520220048182526681521211):=eqn Tryz.f80
theorem text_Ascii.eq:Eqn (Q L0) text_Ascii.spec (zA 0x383152aa41210028415265aa42521211):=eqn Tryz.f292
theorem slices_ContainsFunc_uint16__text_Number_1.eq:Eqn (Q L3) slices_ContainsFunc_uint16__text_Number_1.spec .none:=eqn Tryz.f368
theorem lex_reader_is__lex_reader_strange_1.eq:Eqn (Q L1) lex_reader_is__lex_reader_strange_1.spec .none:=eqn Tryz.f263
theorem oper_sums.eq:Eqn (Q L8) oper_sums.spec .none:=eqn Tryz.f539
theorem shared_Shared_Bytes_1.eq:Eqn (Q L2) shared_Shared_Bytes_1.spec .none:=eqn Tryz.f195
theorem parse_parser_arrow.eq:Eqn (Q L2) parse_parser_arrow.spec .none:=eqn Tryz.f376
theorem eval_run_scope.eq:Eqn (Q L4) eval_run_scope.spec .none:=eqn Tryz.f287
theorem cluster_Cluster_Len_1.eq:Eqn (Q L0) cluster_Cluster_Len_1.spec .none:=eqn Tryz.f72
theorem parse_parser_now.eq:Eqn (Q L0) parse_parser_now.spec .none:=eqn Tryz.f203
theorem renlaw14_Event.eq:Eqn (Q L0) renlaw14_Event.spec .none:=eqn Tryz.f21
theorem event_Equal.eq:Eqn (Q L0) event_Equal.spec .none:=eqn Tryz.f25
theorem num_isInf.eq:Eqn (Q L0) num_isInf.spec .none:=eqn Tryz.f562
end Go.Mach

