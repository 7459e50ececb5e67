/-
  A part of the proofs of renlaw25.JudgeErases and renlaw25.JudgeCells: each law returns true for every input of the stated bulk and leaves its arguments as they were; no further condition.
  By an AI agent; no person has read it.
-/
import Derived.Test.YtjfbodbfjhgffaaGreatDoorPjab
import Derived.Test.YtjfbodbfjhgffaaGreatDoorPjac
import Derived.Test.YtjfbodbfjhgffaaGreatDoorPjae
import Derived.Test.YtjfbodbfjhgffaaGreatDoorPjah
import Derived.KernelRfl
import Derived.Test.YtjfbodbfjhgffaaGreatDoorProg
set_option linter.all false
set_option linter.deprecated false
set_option linter.unusedVariables false
set_option maxRecDepth 100000
noncomputable section
namespace Go.Mach
open Go.Proofs
abbrev pc(a:List (Nat×VSh))(b:List Nat):Ann:=.piece [(.nrm,⟨a,b,[],[]⟩)] .none
def owned:List (TypeId×Sh):=[(398,S_Cell),(290,(.own (.frz T_wait_Waiter))),(360,(.seq (.own .y) (.own .i))),(178,(.box (.seq .i (.own (.frz T_fifo_Entry))))),(118,(.seq (.box (.seq (.frz (.list T_api_Node)) (.seq (.frz T_cluster_Act) (.seq (.own (.frz T_eval_Ans)) (.seq (.frz T_eval_Req) (.frz T_eval_End)))))) (.seq .i (.seq .i (.seq .i .i)))))]
def mapsOf:List (TypeId×Nat):=[(44,3),(91,2)]
theorem keyT_44:KeyT Tryz.prog 44 3:=keyT_of (T:=3) laid (Nat.le_of_ble_eq_true (by kernel_rfl)) (by kernel_rfl) (by kernel_rfl) (Nat.le_of_ble_eq_true (n:=45) (by kernel_rfl)) (by kernel_rfl) (by kernel_rfl) (by kernel_rfl)
theorem keyT_91:KeyT Tryz.prog 91 2:=keyT_of (T:=3) laid (Nat.le_of_ble_eq_true (by kernel_rfl)) (by kernel_rfl) (by kernel_rfl) (Nat.le_of_ble_eq_true (n:=92) (by kernel_rfl)) (by kernel_rfl) (by kernel_rfl) (by kernel_rfl)
theorem mapsOk:∀ p∈mapsOf,KeyT Tryz.prog p.1 p.2:=λp hp=>by
 simp only [mapsOf,List.mem_cons,List.not_mem_nil,or_false] at hp;rcases hp with rfl|rfl
 ·exact keyT_44
 ·exact keyT_91
noncomputable abbrev Q(l:List Spec):Env:={ P:=Tryz.prog,specs:=l,ety:=etyOf Tryz.prog owned,maps:=mapsOf,kok:=mapsOk }
def cmp_isNaN_int.spec:Spec:=cmp_isNaN_int.g.sp 96 λx=>R.cmp_isNaN_int x
def cmp_Compare_int.spec:Spec:=cmp_Compare_int.g.sp 42 λx=>R.cmp_Compare_int x.1 x.2
def slices_Compare_int.spec:Spec:=slices_Compare_int.g.sp 17 λx=>R.slices_Compare_int x.1 x.2
def judge_Cells_1.spec:Spec:=judge_Cells_1.g.sp 16 λx=>R.judge_Cells_1 x.1 x.2
def judge_Erase.spec:Spec:=judge_Erase.g.sp 6 λx=>R.judge_Erase x
def eval_May.spec:Spec:=eval_May.g.sp 104 λx=>R.eval_May x
def cluster_May.spec:Spec:=cluster_May.g.sp 51 λx=>R.cluster_May x
def utf8_DecodeRune.spec:Spec:=utf8_DecodeRune.g.sp 150 λx=>R.utf8_DecodeRune x
def text_Units.spec:Spec:=text_Units.g.sp 105 λx=>R.text_Units x
def lex_blank.spec:Spec:=lex_blank.g.sp 254 λx=>R.lex_blank x
def lex_line.spec:Spec:=lex_line.g.sp 255 λx=>R.lex_line x
def lex_reader_has.spec:Spec:=lex_reader_has.g.sp 256 λx=>R.lex_reader_has x.1 x.2
def lex_reader_pass.spec:Spec:=lex_reader_pass.g.sp 200 λx=>R.lex_reader_pass x
def lex_letter.spec:Spec:=lex_letter.g.sp 258 λx=>R.lex_letter x
def lex_digit.spec:Spec:=lex_digit.g.sp 260 λx=>R.lex_digit x
def lex_reader_is__lex_digit.spec:Spec:=lex_reader_is__lex_digit.g.sp 263 λx=>R.lex_reader_is__lex_digit x.1 x.2.1 x.2.2
def lex_reader_run__lex_digit.spec:Spec:=lex_reader_run__lex_digit.g.sp 306 λx=>R.lex_reader_run__lex_digit x.1 x.2
def lex_reader_strange_1.spec:Spec:=lex_reader_strange_1.g.sp 364 λx=>R.lex_reader_strange_1 x.1 x.2
def lex_reader_is__lex_reader_strange_1.spec:Spec:=lex_reader_is__lex_reader_strange_1.g.sp 263 λx=>R.lex_reader_is__lex_reader_strange_1 x.1 x.2.1 x.2.2
def lex_reader_strange.spec:Spec:=lex_reader_strange.g.sp 310 λx=>R.lex_reader_strange x.1 x.2
def lex_reader_is__lex_letter.spec:Spec:=lex_reader_is__lex_letter.g.sp 263 λx=>R.lex_reader_is__lex_letter x.1 x.2.1 x.2.2
def text_Ascii.spec:Spec:=text_Ascii.g.sp 292 λx=>R.text_Ascii x
def text_blank.spec:Spec:=text_blank.g.sp 365 λx=>R.text_blank x
def text_digit.spec:Spec:=text_digit.g.sp 370 λx=>R.text_digit x
def slices_Index_uint16.spec:Spec:=slices_Index_uint16.g.sp 437 λx=>R.slices_Index_uint16 x.1 x.2
def slices_Contains_uint16.spec:Spec:=slices_Contains_uint16.g.sp 409 λx=>R.slices_Contains_uint16 x.1 x.2
def text_strange.spec:Spec:=text_strange.g.sp 366 λx=>R.text_strange x
def slices_Equal_uint16.spec:Spec:=slices_Equal_uint16.g.sp 80 λx=>R.slices_Equal_uint16 x.1 x.2
def text_Same.spec:Spec:=text_Same.g.sp 367 λx=>R.text_Same x.1 x.2
def text_Number_1.spec:Spec:=text_Number_1.g.sp 369 λx=>R.text_Number_1 x
def slices_IndexFunc_uint16__text_Number_1.spec:Spec:=slices_IndexFunc_uint16__text_Number_1.g.sp 410 λx=>R.slices_IndexFunc_uint16__text_Number_1 x.1 x.2
def slices_ContainsFunc_uint16__text_Number_1.spec:Spec:=slices_ContainsFunc_uint16__text_Number_1.g.sp 368 λx=>R.slices_ContainsFunc_uint16__text_Number_1 x.1 x.2
def text_value.spec:Spec:=text_value.g.sp 371 λx=>R.text_value x
def text_Number.spec:Spec:=text_Number.g.sp 311 λx=>R.text_Number x
def lex_reader_number.spec:Spec:=lex_reader_number.g.sp 261 λx=>R.lex_reader_number x
def text_Plain.spec:Spec:=text_Plain.g.sp 313 λx=>R.text_Plain x
def lex_Sign.spec:Spec:=lex_Sign.g.sp 314 λx=>R.lex_Sign x
def lex_reader_sign.spec:Spec:=lex_reader_sign.g.sp 264 λx=>R.lex_reader_sign x
def lex_reader_token.spec:Spec:=lex_reader_token.g.sp 201 λx=>R.lex_reader_token x
def lex_Tokens.spec:Spec:=lex_Tokens.g.sp 151 λx=>R.lex_Tokens x
def parse_made.spec:Spec:=parse_made.g.sp 202 λx=>R.parse_made x.1 x.2
def parse_parser_now.spec:Spec:=parse_parser_now.g.sp 203 λx=>R.parse_parser_now x
def parse_is.spec:Spec:=parse_is.g.sp 265 λx=>R.parse_is x.1 x.2
def parse_parser_on.spec:Spec:=parse_parser_on.g.sp 320 λx=>R.parse_parser_on x.1 x.2
def parse_parser_take.spec:Spec:=parse_parser_take.g.sp 268 λx=>R.parse_parser_take x.1 x.2
def parse_named.spec:Spec:=parse_named.g.sp 316 λx=>R.parse_named x.1 x.2.1 x.2.2
def parse_parser_arrow.spec:Spec:=parse_parser_arrow.g.sp 376 λx=>R.parse_parser_arrow x
def tree_operators.spec:Spec:=tree_operators.g.sp 328 λx=>R.tree_operators x
def slices_Index_string.spec:Spec:=slices_Index_string.g.sp 334 λx=>R.slices_Index_string x.1 x.2
def slices_Contains_string.spec:Spec:=slices_Contains_string.g.sp 279 λx=>R.slices_Contains_string x.1 x.2
def tree_Op.spec:Spec:=tree_Op.g.sp 378 λx=>R.tree_Op x.1 x.2
def parse_parser_ends.spec:Spec:=parse_parser_ends.g.sp 267 λx=>R.parse_parser_ends x
def parse_binds.spec:Spec:=parse_binds.g.sp 455 λx=>R.parse_binds x
def parse_parser_item.spec(G:G_parseG):Spec:=parse_parser_item.g.sp 204 λx=>G.parse_parser_item x
def parse_parser_statement.spec(G:G_parseG):Spec:=parse_parser_statement.g.sp 271 λx=>G.parse_parser_statement x
def parse_parser_assign.spec(G:G_parseG):Spec:=parse_parser_assign.g.sp 317 λx=>G.parse_parser_assign x
def parse_parser_simple.spec(G:G_parseG):Spec:=parse_parser_simple.g.sp 325 λx=>G.parse_parser_simple x
def parse_parser_cond.spec(G:G_parseG):Spec:=parse_parser_cond.g.sp 377 λx=>G.parse_parser_cond x
def parse_parser_either.spec(G:G_parseG):Spec:=parse_parser_either.g.sp 417 λx=>G.parse_parser_either x
def parse_parser_level.spec(G:G_parseG):Spec:=parse_parser_level.g.sp 439 λx=>G.parse_parser_level x.1 x.2
def parse_parser_both.spec(G:G_parseG):Spec:=parse_parser_both.g.sp 440 λx=>G.parse_parser_both x.1 x.2
def parse_parser_unary.spec(G:G_parseG):Spec:=parse_parser_unary.g.sp 454 λx=>G.parse_parser_unary x
def parse_parser_calls.spec(G:G_parseG):Spec:=parse_parser_calls.g.sp 471 λx=>G.parse_parser_calls x
def parse_parser_head.spec(G:G_parseG):Spec:=parse_parser_head.g.sp 488 λx=>G.parse_parser_head x
def parse_parser_member.spec(G:G_parseG):Spec:=parse_parser_member.g.sp 490 λx=>G.parse_parser_member x.1 x.2
def parse_parser_primary.spec(G:G_parseG):Spec:=parse_parser_primary.g.sp 517 λx=>G.parse_parser_primary x
def parse_parser_program.spec:Spec:=parse_parser_program.g.sp 152 λx=>R.parse_parser_program x
def parse_lay.spec(fu:Nat):Spec:=parse_lay.g.sp 205 λx=>R.parse_lay fu x.1 x.2
def parse_flat.spec:Spec:=parse_flat.g.sp 153 λx=>R.parse_flat x
def tree_Deep.spec:Spec:=tree_Deep.g.sp 155 λx=>R.tree_Deep x
def slices_Max_int.spec:Spec:=slices_Max_int.g.sp 154 λx=>R.slices_Max_int x
def parse_Parse.spec:Spec:=parse_Parse.g.sp 106 λx=>R.parse_Parse x
def tree_order.spec:Spec:=tree_order.g.sp 206 λx=>R.tree_order x
def num_May.spec:Spec:=num_May.g.sp 272 λx=>R.num_May x
def tree_named_in.env(P:Program):Env:={ P:=P,specs:=[],ety:=etyOf P owned }
def tree_named.spec:Spec:=tree_named.g.sp 274 λx=>R.tree_named x
def tree_fields.spec:Spec:=tree_fields.g.sp 207 λx=>R.tree_fields x
def tree_shape.spec:Spec:=tree_shape.g.sp 275 λx=>R.tree_shape x.1 x.2
def tree_kinds.spec:Spec:=tree_kinds.g.sp 276 λx=>R.tree_kinds x
def tree_Statement.spec:Spec:=tree_Statement.g.sp 330 λx=>R.tree_Statement x
def tree_Expression.spec:Spec:=tree_Expression.g.sp 332 λx=>R.tree_Expression x
def tree_fits.spec:Spec:=tree_fits.g.sp 277 λx=>R.tree_fits x.1 x.2
def tree_kids.spec:Spec:=tree_kids.g.sp 208 λx=>R.tree_kids x.1 x.2
def tree_May_1.spec:Spec:=tree_May_1.g.sp 156 λx=>R.tree_May_1 x
def tree_May.spec:Spec:=tree_May.g.sp 156 λx=>R.tree_May x
def early_parents.spec:Spec:=early_parents.g.sp 157 λx=>R.early_parents x
def early_declares.spec:Spec:=early_declares.g.sp 280 λx=>R.early_declares x
def early_function.spec:Spec:=early_function.g.sp 282 λx=>R.early_function x
def early_names.spec:Spec:=early_names.g.sp 210 λx=>R.early_names x.1 x.2
def early_twice.spec:Spec:=early_twice.g.sp 209 λx=>R.early_twice x
def early_hides_1.spec:Spec:=early_hides_1.g.sp 284 λx=>R.early_hides_1 x.1 x.2
def slices_IndexFunc_string__early_hides_1.spec:Spec:=slices_IndexFunc_string__early_hides_1.g.sp 335 λx=>R.slices_IndexFunc_string__early_hides_1 x.1 x.2
def slices_ContainsFunc_string__early_hides_1.spec:Spec:=slices_ContainsFunc_string__early_hides_1.g.sp 283 λx=>R.slices_ContainsFunc_string__early_hides_1 x.1 x.2
def early_hides.spec:Spec:=early_hides.g.sp 211 λx=>R.early_hides x.1 x.2.1 x.2.2
def early_wrong.spec:Spec:=early_wrong.g.sp 158 λx=>R.early_wrong x.1 x.2.1 x.2.2
def early_Check.spec:Spec:=early_Check.g.sp 107 λx=>R.early_Check x
def early_Accept.spec:Spec:=early_Accept.g.sp 52 λx=>R.early_Accept x
def wait_New.spec:Spec:=wait_New.g.sp 53 λ_=>R.wait_New
def block_New.spec:Spec:=block_New.g.sp 108 λ_=>R.block_New
def fifo_New.spec:Spec:=fifo_New.g.sp 109 λx=>R.fifo_New x
def shared_New_1.spec:Spec:=shared_New_1.g.sp 54 λx=>R.shared_New_1 x.1 x.2
def shared_New.spec:Spec:=shared_New.g.sp 54 λx=>R.shared_New x.1 x.2
def post_New.spec:Spec:=post_New.g.sp 55 λx=>R.post_New x
def agent_tree.spec:Spec:=agent_tree.g.sp 110 λx=>R.agent_tree x
def heap_New.spec:Spec:=heap_New.g.sp 216 λx=>R.heap_New x
def heap_own.spec:Spec:=heap_own.g.sp 388 λx=>R.heap_own x
def heap_copied.spec:Spec:=heap_copied.g.sp 419 λx=>R.heap_copied x
def heap_Heap_Make.spec:Spec:=heap_Heap_Make.g.sp 385 λx=>R.heap_Heap_Make x.1 x.2
def eval_run_cell.spec:Spec:=eval_run_cell.g.sp 336 λx=>R.eval_run_cell x.1 x.2
def eval_run_scope.spec:Spec:=eval_run_scope.g.sp 287 λx=>R.eval_run_scope x.1 x.2
def eval_run_declare.spec:Spec:=eval_run_declare.g.sp 288 λx=>R.eval_run_declare x.1 x.2.1 x.2.2
def eval_run_begins.spec:Spec:=eval_run_begins.g.sp 391 λx=>R.eval_run_begins x
def conv_Num.spec:Spec:=conv_Num.g.sp 456 λx=>R.conv_Num x
def heap_zero.spec:Spec:=heap_zero.g.sp 432 λx=>R.heap_zero x
def heap_May.spec:Spec:=heap_May.g.sp 393 λx=>R.heap_May x
def conv_Clean.spec:Spec:=conv_Clean.g.sp 340 λx=>R.conv_Clean x
def conv_Number.spec:Spec:=conv_Number.g.sp 522 λx=>R.conv_Number x
def conv_Numeric.spec:Spec:=conv_Numeric.g.sp 500 λx=>R.conv_Numeric x
def oper_numerics.spec:Spec:=oper_numerics.g.sp 565 λx=>R.oper_numerics x.1 x.2
def num_as.spec:Spec:=num_as.g.sp 394 λx=>R.num_as x
def num_isNaN.spec:Spec:=num_isNaN.g.sp 513 λx=>R.num_isNaN x
def num_isInf.spec:Spec:=num_isInf.g.sp 562 λx=>R.num_isInf x
def num_whole.spec:Spec:=num_whole.g.sp 412 λx=>R.num_whole x
def num_Of.spec:Spec:=num_Of.g.sp 563 λx=>R.num_Of x
def num_Add.spec:Spec:=num_Add.g.sp 531 λx=>R.num_Add x.1 x.2
def oper_numbered.spec:Spec:=oper_numbered.g.sp 530 λx=>R.oper_numbered x.1 x.2
def oper_sums.spec:Spec:=oper_sums.g.sp 539 λx=>R.oper_sums x.1 x.2.1 x.2.2
def oper_Binary.spec:Spec:=oper_Binary.g.sp 504 λx=>R.oper_Binary x.1 x.2.1 x.2.2
def eval_run_result.spec:Spec:=eval_run_result.g.sp 495 λx=>R.eval_run_result x.1 x.2.1 x.2.2
def eval_run_list.spec(G:G_evalG):Spec:=eval_run_list.g.sp 289 λx=>G.eval_run_list x.1 x.2.1 x.2.2
def eval_run_statement.spec(G:G_evalG):Spec:=eval_run_statement.g.sp 339 λx=>G.eval_run_statement x.1 x.2.1 x.2.2.1 x.2.2.2
def eval_run_act.spec(G:G_evalG):Spec:=eval_run_act.g.sp 392 λx=>G.eval_run_act x.1 x.2.1 x.2.2.1 x.2.2.2
def eval_run_expression.spec(G:G_evalG):Spec:=eval_run_expression.g.sp 423 λx=>G.eval_run_expression x.1 x.2.1 x.2.2
def eval_run_value.spec(G:G_evalG):Spec:=eval_run_value.g.sp 446 λx=>G.eval_run_value x.1 x.2.1 x.2.2
def eval_run_operation.spec(G:G_evalG):Spec:=eval_run_operation.g.sp 464 λx=>G.eval_run_operation x.1 x.2.1 x.2.2.1 x.2.2.2
def eval_run_binary.spec(G:G_evalG):Spec:=eval_run_binary.g.sp 476 λx=>G.eval_run_binary x.1 x.2.1 x.2.2
def eval_run_program.spec:Spec:=eval_run_program.g.sp 217 λx=>R.eval_run_program x
def eval_Resume.spec:Spec:=eval_Resume.g.sp 163 λx=>R.eval_Resume x.1 x.2.1 x.2.2
def agent_Agent_goes.spec:Spec:=agent_Agent_goes.g.sp 111 λx=>R.agent_Agent_goes x
def agent_New.spec:Spec:=agent_New.g.sp 56 λx=>R.agent_New x.1 x.2
def cluster_New_1.spec:Spec:=cluster_New_1.g.sp 26 λx=>R.cluster_New_1 x.1 x.2
def cluster_New.spec:Spec:=cluster_New.g.sp 26 λx=>R.cluster_New x.1 x.2
def cluster_Cluster_has_1.spec:Spec:=cluster_Cluster_has_1.g.sp 112 λx=>R.cluster_Cluster_has_1 x.1 x.2
def cluster_Cluster_has.spec:Spec:=cluster_Cluster_has.g.sp 112 λx=>R.cluster_Cluster_has x.1 x.2
def agent_Agent_Ask.spec:Spec:=agent_Agent_Ask.g.sp 114 λx=>R.agent_Agent_Ask x
def cluster_Cluster_over_1.spec:Spec:=cluster_Cluster_over_1.g.sp 117 λx=>R.cluster_Cluster_over_1 x.1 x.2
def cluster_Cluster_over.spec:Spec:=cluster_Cluster_over.g.sp 117 λx=>R.cluster_Cluster_over x.1 x.2
def cluster_Cluster_status_1.spec:Spec:=cluster_Cluster_status_1.g.sp 113 λx=>R.cluster_Cluster_status_1 x.1 x.2
def cluster_Cluster_status.spec:Spec:=cluster_Cluster_status.g.sp 113 λx=>R.cluster_Cluster_status x.1 x.2
def shared_Shared_Events_1.spec:Spec:=shared_Shared_Events_1.g.sp 61 λx=>R.shared_Shared_Events_1 x
def shared_Shared_Events.spec:Spec:=shared_Shared_Events.g.sp 61 λx=>R.shared_Shared_Events x
def cluster_Cluster_step_1.spec:Spec:=cluster_Cluster_step_1.g.sp 57 λx=>R.cluster_Cluster_step_1 x.1 x.2
def cluster_Cluster_step.spec:Spec:=cluster_Cluster_step.g.sp 57 λx=>R.cluster_Cluster_step x.1 x.2
def cluster_Cluster_Do_1.spec:Spec:=cluster_Cluster_Do_1.g.sp 27 λx=>R.cluster_Cluster_Do_1 x.1 x.2
def cluster_Cluster_Do.spec:Spec:=cluster_Cluster_Do.g.sp 27 λx=>R.cluster_Cluster_Do x.1 x.2
def cluster_Cluster_Events_1.spec:Spec:=cluster_Cluster_Events_1.g.sp 28 λx=>R.cluster_Cluster_Events_1 x
def cluster_Cluster_Events.spec:Spec:=cluster_Cluster_Events.g.sp 28 λx=>R.cluster_Cluster_Events x
def event_Head.spec:Spec:=event_Head.g.sp 189 λx=>R.event_Head x.1 x.2
def event_Copy.spec:Spec:=event_Copy.g.sp 124 λx=>R.event_Copy x
def shared_Shared_Log_1.spec:Spec:=shared_Shared_Log_1.g.sp 62 λx=>R.shared_Shared_Log_1 x
def shared_Shared_Log.spec:Spec:=shared_Shared_Log.g.sp 62 λx=>R.shared_Shared_Log x
def cluster_Cluster_Log_1.spec:Spec:=cluster_Cluster_Log_1.g.sp 29 λx=>R.cluster_Cluster_Log_1 x
def cluster_Cluster_Log.spec:Spec:=cluster_Cluster_Log.g.sp 29 λx=>R.cluster_Cluster_Log x
def event_Reads.spec:Spec:=event_Reads.g.sp 101 λx=>R.event_Reads x
def event_Writes.spec:Spec:=event_Writes.g.sp 102 λx=>R.event_Writes x
def event_fields.spec:Spec:=event_fields.g.sp 48 λx=>R.event_fields x
def event_within.spec:Spec:=event_within.g.sp 50 λx=>R.event_within x.1 x.2.1 x.2.2
def event_Covers.spec:Spec:=event_Covers.g.sp 103 λx=>R.event_Covers x.1 x.2.1 x.2.2
def event_reads.spec:Spec:=event_reads.g.sp 49 λx=>R.event_reads x.1 x.2
def event_May.spec:Spec:=event_May.g.sp 22 λx=>R.event_May x
def model_Natural.spec:Spec:=model_Natural.g.sp 31 λx=>R.model_Natural x
def rel_empty.spec:Spec:=rel_empty.g.sp 191 λx=>R.rel_empty x
def event_Equal.spec:Spec:=event_Equal.g.sp 25 λx=>R.event_Equal x.1 x.2
def rel_Sync.spec:Spec:=rel_Sync.g.sp 129 λx=>R.rel_Sync x
def rel_Before.spec:Spec:=rel_Before.g.sp 68 λx=>R.rel_Before x
def model_Coherent.spec:Spec:=model_Coherent.g.sp 63 λx=>R.model_Coherent x
def model_TearFree.spec:Spec:=model_TearFree.g.sp 64 λx=>R.model_TearFree x
def model_places.spec:Spec:=model_places.g.sp 127 λx=>R.model_places x.1 x.2
def rel_Rel_List.spec:Spec:=rel_Rel_List.g.sp 128 λx=>R.rel_Rel_List x
def model_Ordered.spec:Spec:=model_Ordered.g.sp 65 λx=>R.model_Ordered x.1 x.2
def model_Atomic.spec:Spec:=model_Atomic.g.sp 66 λx=>R.model_Atomic x.1 x.2
def model_Valid.spec:Spec:=model_Valid.g.sp 30 λx=>R.model_Valid x.1 x.2
def cell_kind.spec:Spec:=cell_kind.g.sp 23 λx=>R.cell_kind x
def event_Overlap.spec:Spec:=event_Overlap.g.sp 24 λx=>R.event_Overlap x.1 x.2
def cell_Clean.spec:Spec:=cell_Clean.g.sp 13 λx=>R.cell_Clean x.1 x.2.1 x.2.2.1 x.2.2.2
def judge_Cells.spec:Spec:=judge_Cells.g.sp 10 λx=>R.judge_Cells x
def judge_clean.spec:Spec:=judge_clean.g.sp 32 λx=>R.judge_clean x
def race_Conflicts.spec:Spec:=race_Conflicts.g.sp 33 λx=>R.race_Conflicts x
def race_Datas.spec:Spec:=race_Datas.g.sp 34 λx=>R.race_Datas x
def race_First.spec:Spec:=race_First.g.sp 35 λx=>R.race_First x
def judge_Judge_1.spec:Spec:=judge_Judge_1.g.sp 37 λx=>R.judge_Judge_1 x.1 x.2
def slices_IndexFunc_int__judge_Judge_1.spec:Spec:=slices_IndexFunc_int__judge_Judge_1.g.sp 36 λx=>R.slices_IndexFunc_int__judge_Judge_1 x.1 x.2
def cluster_Cluster_Run_1.spec:Spec:=cluster_Cluster_Run_1.g.sp 71 λx=>R.cluster_Cluster_Run_1 x.1 x.2
def cluster_Cluster_Run.spec:Spec:=cluster_Cluster_Run.g.sp 71 λx=>R.cluster_Cluster_Run x.1 x.2
def judge_Run.spec:Spec:=judge_Run.g.sp 38 λx=>R.judge_Run x.1 x.2.1 x.2.2
def cluster_Cluster_Len_1.spec:Spec:=cluster_Cluster_Len_1.g.sp 72 λx=>R.cluster_Cluster_Len_1 x
def cluster_Cluster_Len.spec:Spec:=cluster_Cluster_Len.g.sp 72 λx=>R.cluster_Cluster_Len x
def slices_EqualFunc_eventEvent__event_alike.spec:Spec:=slices_EqualFunc_eventEvent__event_alike.g.sp 133 λx=>R.slices_EqualFunc_eventEvent__event_alike x.1 x.2.1 x.2.2
def slices_Equal_2int.spec:Spec:=slices_Equal_2int.g.sp 135 λx=>R.slices_Equal_2int x.1 x.2
def event_Same.spec:Spec:=event_Same.g.sp 73 λx=>R.event_Same x.1 x.2
def cluster_Cluster_Said_1.spec:Spec:=cluster_Cluster_Said_1.g.sp 75 λx=>R.cluster_Cluster_Said_1 x
def cluster_Cluster_Said.spec:Spec:=cluster_Cluster_Said.g.sp 75 λx=>R.cluster_Cluster_Said x
def slices_Equal_string.spec:Spec:=slices_Equal_string.g.sp 74 λx=>R.slices_Equal_string x.1 x.2
def bytes_Clone.spec:Spec:=bytes_Clone.g.sp 294 λx=>R.bytes_Clone x
def block_Blocks_Copy.spec:Spec:=block_Blocks_Copy.g.sp 250 λx=>R.block_Blocks_Copy x
def fifo_Queue_List.spec:Spec:=fifo_Queue_List.g.sp 303 λx=>R.fifo_Queue_List x
def fifo_Queue_Copy.spec:Spec:=fifo_Queue_Copy.g.sp 251 λx=>R.fifo_Queue_Copy x
def shared_Shared_Copy_1.spec:Spec:=shared_Shared_Copy_1.g.sp 193 λx=>R.shared_Shared_Copy_1 x
def shared_Shared_Copy.spec:Spec:=shared_Shared_Copy.g.sp 193 λx=>R.shared_Shared_Copy x
def fifo_Queue_Flush.spec:Spec:=fifo_Queue_Flush.g.sp 120 λx=>R.fifo_Queue_Flush x.1 x.2
def fifo_Queue_Drain.spec:Spec:=fifo_Queue_Drain.g.sp 252 λx=>R.fifo_Queue_Drain x.1 x.2
def shared_Shared_drain_1.spec:Spec:=shared_Shared_drain_1.g.sp 194 λx=>R.shared_Shared_drain_1 x.1 x.2
def shared_Shared_drain.spec:Spec:=shared_Shared_drain.g.sp 194 λx=>R.shared_Shared_drain x.1 x.2
def block_Blocks_All.spec:Spec:=block_Blocks_All.g.sp 253 λx=>R.block_Blocks_All x
def shared_Shared_Bytes_1.spec:Spec:=shared_Shared_Bytes_1.g.sp 195 λx=>R.shared_Shared_Bytes_1 x
def shared_Shared_Bytes.spec:Spec:=shared_Shared_Bytes.g.sp 195 λx=>R.shared_Shared_Bytes x
def shared_Shared_Final_1.spec:Spec:=shared_Shared_Final_1.g.sp 136 λx=>R.shared_Shared_Final_1 x
def shared_Shared_Final.spec:Spec:=shared_Shared_Final.g.sp 136 λx=>R.shared_Shared_Final x
def cluster_Cluster_Final_1.spec:Spec:=cluster_Cluster_Final_1.g.sp 77 λx=>R.cluster_Cluster_Final_1 x
def cluster_Cluster_Final.spec:Spec:=cluster_Cluster_Final.g.sp 77 λx=>R.cluster_Cluster_Final x
def bytes_Equal.spec:Spec:=bytes_Equal.g.sp 78 λx=>R.bytes_Equal x.1 x.2
def slices_EqualFunc_sbyte__bytes_Equal.spec:Spec:=slices_EqualFunc_sbyte__bytes_Equal.g.sp 76 λx=>R.slices_EqualFunc_sbyte__bytes_Equal x.1 x.2.1 x.2.2
def shared_Shared_agent_1.spec:Spec:=shared_Shared_agent_1.g.sp 184 λx=>R.shared_Shared_agent_1 x.1 x.2
def shared_Shared_agent.spec:Spec:=shared_Shared_agent.g.sp 184 λx=>R.shared_Shared_agent x.1 x.2
def fifo_Queue_Len.spec:Spec:=fifo_Queue_Len.g.sp 196 λx=>R.fifo_Queue_Len x
def shared_Shared_Pending_1_in.env(P:Program):Env:={ P:=P,specs:=[shared_Shared_agent_1.spec],ety:=etyOf P owned }
def shared_Shared_Pending_1.spec:Spec:=shared_Shared_Pending_1.g.sp 137 λx=>R.shared_Shared_Pending_1 x.1 x.2
def shared_Shared_Pending_in.env(P:Program):Env:={ P:=P,specs:=[shared_Shared_agent.spec],ety:=etyOf P owned }
def shared_Shared_Pending.spec:Spec:=shared_Shared_Pending.g.sp 137 λx=>R.shared_Shared_Pending x.1 x.2
def agent_Agent_Count.spec:Spec:=agent_Agent_Count.g.sp 138 λx=>R.agent_Agent_Count x
def cluster_Cluster_View_1.spec:Spec:=cluster_Cluster_View_1.g.sp 79 λx=>R.cluster_Cluster_View_1 x.1 x.2
def cluster_Cluster_View.spec:Spec:=cluster_Cluster_View.g.sp 79 λx=>R.cluster_Cluster_View x.1 x.2
def agent_Agent_Tree.spec:Spec:=agent_Agent_Tree.g.sp 143 λx=>R.agent_Agent_Tree x
def cluster_Cluster_Tree_1.spec:Spec:=cluster_Cluster_Tree_1.g.sp 82 λx=>R.cluster_Cluster_Tree_1 x.1 x.2
def cluster_Cluster_Tree.spec:Spec:=cluster_Cluster_Tree.g.sp 82 λx=>R.cluster_Cluster_Tree x.1 x.2
def slices_Equal_uint32.spec:Spec:=slices_Equal_uint32.g.sp 141 λx=>R.slices_Equal_uint32 x.1 x.2
def slices_Equal_int.spec:Spec:=slices_Equal_int.g.sp 142 λx=>R.slices_Equal_int x.1 x.2
def tree_Same_1.spec:Spec:=tree_Same_1.g.sp 140 λx=>R.tree_Same_1 x.1 x.2
def slices_EqualFunc_apiNode__tree_Same_1.spec:Spec:=slices_EqualFunc_apiNode__tree_Same_1.g.sp 139 λx=>R.slices_EqualFunc_apiNode__tree_Same_1 x.1 x.2.1 x.2.2
def tree_Same.spec:Spec:=tree_Same.g.sp 81 λx=>R.tree_Same x.1 x.2
def agent_Agent_Answers.spec:Spec:=agent_Agent_Answers.g.sp 144 λx=>R.agent_Agent_Answers x
def cluster_Cluster_Answers_1.spec:Spec:=cluster_Cluster_Answers_1.g.sp 84 λx=>R.cluster_Cluster_Answers_1 x.1 x.2
def cluster_Cluster_Answers.spec:Spec:=cluster_Cluster_Answers.g.sp 84 λx=>R.cluster_Cluster_Answers x.1 x.2
def slices_EqualFunc_evalAns__judge_answer.spec:Spec:=slices_EqualFunc_evalAns__judge_answer.g.sp 83 λx=>R.slices_EqualFunc_evalAns__judge_answer x.1 x.2.1 x.2.2
def judge_Alike.spec:Spec:=judge_Alike.g.sp 39 λx=>R.judge_Alike x.1 x.2
def judge_Judge.spec:Spec:=judge_Judge.g.sp 14 λx=>R.judge_Judge x.1 x.2.1 x.2.2
def renlaw25_first.spec:Spec:=renlaw25_first.g.sp 5 λ_=>R.renlaw25_first
def renlaw24_Acts.spec:Spec:=renlaw24_Acts.g.sp 8 λx=>R.renlaw24_Acts x
def renref24_Erase.spec:Spec:=renref24_Erase.g.sp 7 λx=>R.renref24_Erase x
def renlaw25_JudgeErases.spec:Spec:=renlaw25_JudgeErases.g.sp 3 λx=>R.renlaw25_JudgeErases x
def renlaw14_Few.spec:Spec:=renlaw14_Few.g.sp 9 λx=>R.renlaw14_Few x.1 x.2
def renlaw14_Event.spec:Spec:=renlaw14_Event.g.sp 21 λx=>R.renlaw14_Event x
def renlaw14_Log.spec:Spec:=renlaw14_Log.g.sp 12 λx=>R.renlaw14_Log x
def renref14_Reads.spec:Spec:=renref14_Reads.g.sp 97 λx=>R.renref14_Reads x
def renref14_Writes.spec:Spec:=renref14_Writes.g.sp 98 λx=>R.renref14_Writes x
def renref14_shape.spec:Spec:=renref14_shape.g.sp 43 λx=>R.renref14_shape x
def renref14_Covers.spec:Spec:=renref14_Covers.g.sp 99 λx=>R.renref14_Covers x.1 x.2.1 x.2.2
def renref14_wrote.spec:Spec:=renref14_wrote.g.sp 100 λx=>R.renref14_wrote x.1 x.2
def renref14_read.spec:Spec:=renref14_read.g.sp 44 λx=>R.renref14_read x.1 x.2
def renref14_May.spec:Spec:=renref14_May.g.sp 18 λx=>R.renref14_May x
def renref24_less.spec:Spec:=renref24_less.g.sp 19 λx=>R.renref24_less x.1 x.2
def renref18_Good.spec:Spec:=renref18_Good.g.sp 45 λx=>R.renref18_Good x
def renref14_Overlap.spec:Spec:=renref14_Overlap.g.sp 46 λx=>R.renref14_Overlap x.1 x.2
def renref14_Equal.spec:Spec:=renref14_Equal.g.sp 47 λx=>R.renref14_Equal x.1 x.2
def renref18_Clean.spec:Spec:=renref18_Clean.g.sp 20 λx=>R.renref18_Clean x.1 x.2.1 x.2.2.1 x.2.2.2
def renref24_Cells.spec:Spec:=renref24_Cells.g.sp 11 λx=>R.renref24_Cells x
def renlaw25_JudgeCells.spec:Spec:=renlaw25_JudgeCells.g.sp 4 λx=>R.renlaw25_JudgeCells x
abbrev zs0:Sh:=(.seq (.own (.seq (.box (.seq (.frz (.list T_api_Node)) (.seq (.frz T_cluster_Act) (.seq (.own (.frz T_eval_Ans)) (.seq (.frz T_eval_Req) (.frz T_eval_End)))))) (.seq .i (.seq .i (.seq .i .i))))) (.seq (.box (.seq .i (.seq (.box (.own (.seq (.own .y) (.own .i)))) (.seq (.own (.box (.seq .i (.own (.frz T_fifo_Entry))))) (.seq (.own (.frz T_event_Event)) (.own (.frz T_api_Num))))))) (.seq (.box (.map 2 (.own (.frz T_wait_Waiter)))) (.seq (.box (.seq (.own (.frz (.list T_post_Mail))) (.seq (.own (.frz T_post_Report)) .i))) (.seq (.map 2 .i) (.own .s))))))
abbrev zs1:Sh:=(.box (.seq (.seq .i (.seq .i (.seq .i (.seq .i .i)))) (.seq (.own (.seq (.box (.seq (.frz (.list T_api_Node)) (.seq (.frz T_cluster_Act) (.seq (.own (.frz T_eval_Ans)) (.seq (.frz T_eval_Req) (.frz T_eval_End)))))) (.seq .i (.seq .i (.seq .i .i))))) (.seq (.box (.seq .i (.seq (.box (.own (.seq (.own .y) (.own .i)))) (.seq .nilz (.seq (.own (.frz T_event_Event)) (.own (.frz T_api_Num))))))) (.seq (.box (.map 2 (.own (.frz T_wait_Waiter)))) (.seq (.box (.seq (.own (.frz (.list T_post_Mail))) (.seq (.own (.frz T_post_Report)) .i))) (.seq (.map 2 .i) (.own .s))))))))
abbrev zs2:Sh:=(.box (.seq .i (.seq (.box (.own (.seq (.own .y) (.own .i)))) (.seq (.own (.box (.seq .i (.own (.frz T_fifo_Entry))))) (.seq (.own (.frz T_event_Event)) (.own (.frz T_api_Num)))))))
abbrev zs3:Sh:=(.own (.seq (.box (.seq (.frz (.list T_api_Node)) (.seq (.frz T_cluster_Act) (.seq (.own (.frz T_eval_Ans)) (.seq (.frz T_eval_Req) (.frz T_eval_End)))))) (.seq .i (.seq .i (.seq .i .i)))))
abbrev zs4:Sh:=(.box (.seq (.seq .i (.seq .i (.seq .i (.seq .i .i)))) zs0))
abbrev zs5:Sh:=(.box (.frz (.rose T_api_Node)))
abbrev zs6:Sh:=(.own (.frz T_api_Num))
abbrev zs7:Sh:=(.own (.frz T_cluster_Act))
abbrev zs8:Sh:=(.seq (.own (.frz T_event_Event)) zs6)
abbrev zs9:Sh:=(.box (.own (.seq (.own .y) (.own .i))))
noncomputable def zT:List Sh:=[.b,zs4,zs1,.i,.map 3 .b,zs7,zs6,.box (.frz T_cluster_View),.own .i,S_Tree,.box (.seq .i (.seq .i (.seq .i (.seq .i (.seq .i zs0))))),.box (.frz T_judge_Verdict),zs2,S_parser,zs5,zs3,zs9,.own (.frz (.list (.int .u8))),.own (.frz T_fifo_Entry),.box zs8,.frz (.int .i32),.own .s,.bor (.own .h),.box (.frz T_api_Num),S_Tree0,.own .h,.box S_node,S_run,.box (.frz T_eval_outcome),S_reader,.box (.seq .i (.seq .s (.seq (.own .h) (.seq (.frz T_api_Num) (.seq (.seq .b (.own .w)) (.seq .i .b)))))),.own .y,.s,.own (.frz T_eval_Ans),.box (.seq .i (.seq zs9 (.seq .nilz zs8))),.own (.frz T_api_Token),.box (.frz T_post_Report),.own (.frz T_heap_Prop),.own (.frz T_heap_Slot),.own (.frz (.list (.int .u64)))]
abbrev zA(n:Nat):Ann:=annOf zT n
noncomputable def L0:List Spec:=[cloneSpec 160 (.int .u16),cloneSpec 161 (.int .u32),cloneSpec 162 (.int .i64),cloneSpecN 120 159 T_api_Node,cloneSpec 443 (.int .u8),cloneSpecN 112 441 T_heap_Prop,cloneSpecN 112 442 T_heap_Slot,cloneSpec 431 .str,sort3Spec 15 16,cloneSpec 197 T_eval_Ans]
noncomputable def M_parseG(G:G_parseG):List Spec:=[parse_parser_item.spec G,parse_parser_statement.spec G,parse_parser_assign.spec G,parse_parser_simple.spec G,parse_parser_cond.spec G,parse_parser_either.spec G,parse_parser_level.spec G,parse_parser_both.spec G,parse_parser_unary.spec G,parse_parser_calls.spec G,parse_parser_head.spec G,parse_parser_member.spec G,parse_parser_primary.spec G]
noncomputable def M_evalG(G:G_evalG):List Spec:=[eval_run_list.spec G,eval_run_statement.spec G,eval_run_act.spec G,eval_run_expression.spec G,eval_run_value.spec G,eval_run_operation.spec G,eval_run_binary.spec G]
noncomputable def L1:List Spec:=cmp_isNaN_int.spec::judge_Erase.spec::eval_May.spec::utf8_DecodeRune.spec::lex_blank.spec::lex_line.spec::lex_reader_has.spec::lex_letter.spec::lex_digit.spec::lex_reader_strange_1.spec::text_Ascii.spec::text_blank.spec::text_digit.spec::slices_Index_uint16.spec::slices_Equal_uint16.spec::text_value.spec::text_Plain.spec::lex_Sign.spec::parse_made.spec::parse_parser_now.spec::parse_is.spec::parse_named.spec::tree_operators.spec::slices_Index_string.spec::parse_lay.spec fuel::tree_Deep.spec::slices_Max_int.spec::tree_order.spec::num_May.spec::tree_shape.spec::tree_kinds.spec::tree_Statement.spec::tree_Expression.spec::early_parents.spec::early_declares.spec::early_function.spec::wait_New.spec::block_New.spec::fifo_New.spec::post_New.spec::agent_tree.spec::heap_New.spec::heap_own.spec::eval_run_declare.spec::eval_run_begins.spec::conv_Num.spec::heap_zero.spec::num_isNaN.spec::num_isInf.spec::num_whole.spec::eval_run_result.spec::cluster_Cluster_has_1.spec::cluster_Cluster_has.spec::agent_Agent_Ask.spec::shared_Shared_Events_1.spec::shared_Shared_Events.spec::event_Head.spec::event_Reads.spec::event_Writes.spec::event_within.spec::rel_empty.spec::event_Equal.spec::model_places.spec::rel_Rel_List.spec::cell_kind.spec::judge_Judge_1.spec::cluster_Cluster_Len_1.spec::cluster_Cluster_Len.spec::slices_EqualFunc_eventEvent__event_alike.spec::slices_Equal_2int.spec::cluster_Cluster_Said_1.spec::cluster_Cluster_Said.spec::slices_Equal_string.spec::bytes_Clone.spec::fifo_Queue_List.spec::fifo_Queue_Flush.spec::shared_Shared_drain.spec::bytes_Equal.spec::shared_Shared_agent_1.spec::shared_Shared_agent.spec::fifo_Queue_Len.spec::agent_Agent_Count.spec::slices_Equal_uint32.spec::slices_Equal_int.spec::agent_Agent_Answers.spec::slices_EqualFunc_evalAns__judge_answer.spec::renlaw24_Acts.spec::renref24_Erase.spec::renlaw14_Few.spec::renlaw14_Event.spec::renref14_Reads.spec::renref14_Writes.spec::renref14_Covers.spec::renref14_wrote.spec::renref24_less.spec::renref18_Good.spec::renref14_Equal.spec::L0
noncomputable def L2:List Spec:=cmp_Compare_int.spec::cluster_May.spec::text_Units.spec::lex_reader_pass.spec::lex_reader_is__lex_digit.spec::lex_reader_is__lex_reader_strange_1.spec::lex_reader_is__lex_letter.spec::slices_Contains_uint16.spec::text_Same.spec::text_Number_1.spec::parse_parser_on.spec::slices_Contains_string.spec::parse_binds.spec::parse_flat.spec::tree_fits.spec::early_names.spec::shared_New_1.spec::shared_New.spec::heap_copied.spec::heap_May.spec::num_as.spec::num_Of.spec::oper_numbered.spec::cluster_Cluster_over_1.spec::cluster_Cluster_over.spec::cluster_Cluster_Events_1.spec::cluster_Cluster_Events.spec::event_Copy.spec::event_fields.spec::event_Covers.spec::event_Overlap.spec::slices_IndexFunc_int__judge_Judge_1.spec::event_Same.spec::block_Blocks_Copy.spec::fifo_Queue_Copy.spec::fifo_Queue_Drain.spec::block_Blocks_All.spec::slices_EqualFunc_sbyte__bytes_Equal.spec::shared_Shared_Pending_1.spec::shared_Shared_Pending.spec::agent_Agent_Tree.spec::tree_Same_1.spec::cluster_Cluster_Answers_1.spec::cluster_Cluster_Answers.spec::renlaw14_Log.spec::renref14_shape.spec::renref14_read.spec::renref14_Overlap.spec::L1
noncomputable def L3:List Spec:=slices_Compare_int.spec::lex_reader_run__lex_digit.spec::lex_reader_strange.spec::text_strange.spec::slices_IndexFunc_uint16__text_Number_1.spec::lex_reader_sign.spec::parse_parser_take.spec::parse_parser_arrow.spec::tree_Op.spec::tree_named.spec::tree_kids.spec::early_twice.spec::early_hides_1.spec::heap_Heap_Make.spec::conv_Clean.spec::num_Add.spec::cluster_Cluster_status_1.spec::cluster_Cluster_status.spec::shared_Shared_Log_1.spec::shared_Shared_Log.spec::event_reads.spec::shared_Shared_drain_1.spec::shared_Shared_Bytes_1.spec::shared_Shared_Bytes.spec::cluster_Cluster_Tree_1.spec::cluster_Cluster_Tree.spec::slices_EqualFunc_apiNode__tree_Same_1.spec::renref14_May.spec::L2
noncomputable def L4:List Spec:=judge_Cells_1.spec::slices_ContainsFunc_uint16__text_Number_1.spec::parse_parser_ends.spec::tree_fields.spec::slices_IndexFunc_string__early_hides_1.spec::eval_run_cell.spec::cluster_Cluster_step_1.spec::cluster_Cluster_step.spec::cluster_Cluster_Log_1.spec::cluster_Cluster_Log.spec::event_May.spec::shared_Shared_Copy_1.spec::shared_Shared_Copy.spec::cluster_Cluster_View_1.spec::cluster_Cluster_View.spec::tree_Same.spec::renref18_Clean.spec::L3
noncomputable def L5:List Spec:=text_Number.spec::tree_May_1.spec::tree_May.spec::slices_ContainsFunc_string__early_hides_1.spec::eval_run_scope.spec::cluster_Cluster_Do_1.spec::cluster_Cluster_Do.spec::model_Natural.spec::rel_Sync.spec::model_TearFree.spec::cell_Clean.spec::shared_Shared_Final_1.spec::shared_Shared_Final.spec::renref24_Cells.spec::(M_parseG (parseG fuel)++L4)
noncomputable def L6:List Spec:=lex_reader_number.spec::parse_parser_program.spec::early_hides.spec::conv_Number.spec::rel_Before.spec::judge_Cells.spec::cluster_Cluster_Run_1.spec::cluster_Cluster_Run.spec::cluster_Cluster_Final_1.spec::cluster_Cluster_Final.spec::L5
noncomputable def L7:List Spec:=lex_reader_token.spec::early_wrong.spec::conv_Numeric.spec::model_Coherent.spec::model_Ordered.spec::judge_clean.spec::race_Conflicts.spec::judge_Alike.spec::L6
noncomputable def L8:List Spec:=lex_Tokens.spec::early_Check.spec::oper_numerics.spec::model_Atomic.spec::race_Datas.spec::race_First.spec::L7
noncomputable def L9:List Spec:=parse_Parse.spec::oper_sums.spec::model_Valid.spec::L8
noncomputable def L10:List Spec:=early_Accept.spec::oper_Binary.spec::L9
noncomputable def L11:List Spec:=(M_evalG (evalG fuel)++L10)
noncomputable def L12:List Spec:=eval_run_program.spec::L11
noncomputable def L13:List Spec:=eval_Resume.spec::L12
noncomputable def L14:List Spec:=agent_Agent_goes.spec::L13
noncomputable def L15:List Spec:=agent_New.spec::L14
noncomputable def L16:List Spec:=cluster_New_1.spec::cluster_New.spec::L15
noncomputable def L17:List Spec:=judge_Run.spec::L16
noncomputable def L18:List Spec:=judge_Judge.spec::L17
noncomputable def L19:List Spec:=renlaw25_first.spec::L18
noncomputable def L20:List Spec:=renlaw25_JudgeErases.spec::renlaw25_JudgeCells.spec::L19
end Go.Mach
end

