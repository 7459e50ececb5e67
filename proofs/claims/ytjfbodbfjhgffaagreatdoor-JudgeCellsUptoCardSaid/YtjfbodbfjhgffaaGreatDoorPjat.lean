/-
  A part of the proofs of renlaw25.JudgeErases and renlaw25.JudgeCells: each law returns true for every input of the stated bulk and leaves its arguments as they were; no further condition.
  By an AI agent; no person has read it.
-/
import Derived.Test.YtjfbodbfjhgffaaGreatDoorPjai
import Derived.KernelRfl
import Derived.Test.YtjfbodbfjhgffaaGreatDoorProg
set_option linter.all false
set_option linter.deprecated false
set_option linter.unusedVariables false
set_option maxRecDepth 100000
namespace Go.Mach
open Go.Proofs
theorem model_Atomic.eq:Eqn (Q L7) model_Atomic.spec (zA 0x6a1b10fd101421221100ead92682651100ead921815306200dae92181536ca1521112211008b4935826511008b49308153042007b5930815363a152112211001cc83222836511001cc83225154022000cd832251546b9152121111):=eqn Tryz.f66
theorem model_TearFree.eq:Eqn (Q L4) model_TearFree.spec (zA 0x6da103b101422000193910ca10142312211000a78121636311000a78121313404200f988151336a8662521112211009a7123436311009a712433022008a08124336781521211):=eqn Tryz.f64
theorem parse_parser_unary.eq(G:G_parseG):Eqn (Q (M_parseG G++L4)) (parse_parser_unary.g.sp 454 λx=>R.parse_parser_unary G x) (zA 0x48bb107c1014212100071810881014202915802191810100468481820024311):=eqn Tryz.f454
theorem event_reads.eq:Eqn (Q L2) event_reads.spec (zA 0x8949104b10142110007fb10eb1014311212211005b183720511005b1832153022004b28321536a81521211):=eqn Tryz.f49
theorem eval_run_list.eq(G:G_evalG):Eqn (Q (M_evalG G++L10)) (eval_run_list.g.sp 289 λx=>R.eval_run_list G x.1 x.2.1 x.2.2) (zA 0x22149539325832182012213931583218202222139314842182658152121):=eqn Tryz.f289
theorem tree_Deep.eq:Eqn (Q L0) tree_Deep.spec (zA 0x821580910820410082148191082689152111221100821690812253021008215918122536881521211):=eqn Tryz.f155
theorem model_Ordered.eq:Eqn (Q L6) model_Ordered.spec (zA 0x88a8118265110088a8141530220078b814153639152121111):=eqn Tryz.f65
theorem slices_IndexFunc_string__early_hides_1.eq:Eqn (Q L3) slices_IndexFunc_string__early_hides_1.spec (zA 0x38316265110038325202200284252618152121):=eqn Tryz.f335
theorem text_value.eq:Eqn (Q L0) text_value.spec (zA 0x58312153026321005831323365122004841323366652521211):=eqn Tryz.f371
theorem slices_Equal_string.eq:Eqn (Q L0) slices_Equal_string.spec (zA 0x580816205110058082520220048182526681521211):=eqn Tryz.f74
theorem parse_parser_ends.eq:Eqn (Q L3) parse_parser_ends.spec (zA 0x580168610c81014221):=eqn Tryz.f267
theorem slices_ContainsFunc_string__early_hides_1.eq:Eqn (Q L4) slices_ContainsFunc_string__early_hides_1.spec .none:=eqn Tryz.f283
theorem tree_Same_1.eq:Eqn (Q L1) tree_Same_1.spec .none:=eqn Tryz.f140
theorem slices_Contains_uint16.eq:Eqn (Q L1) slices_Contains_uint16.spec .none:=eqn Tryz.f409
theorem lex_reader_is__lex_digit.eq:Eqn (Q L1) lex_reader_is__lex_digit.spec .none:=eqn Tryz.f263
theorem agent_Agent_Ask.eq:Eqn (Q L0) agent_Agent_Ask.spec .none:=eqn Tryz.f114
theorem eval_run_cell.eq:Eqn (Q L3) eval_run_cell.spec .none:=eqn Tryz.f336
theorem oper_numbered.eq:Eqn (Q L1) oper_numbered.spec .none:=eqn Tryz.f530
theorem fifo_Queue_Flush.eq:Eqn (Q L0) fifo_Queue_Flush.spec .none:=eqn Tryz.f120
theorem renref14_Reads.eq:Eqn (Q L0) renref14_Reads.spec .none:=eqn Tryz.f97
theorem bytes_Equal.eq:Eqn (Q L0) bytes_Equal.spec .none:=eqn Tryz.f78
theorem num_whole.eq:Eqn (Q L0) num_whole.spec .none:=eqn Tryz.f412
end Go.Mach

