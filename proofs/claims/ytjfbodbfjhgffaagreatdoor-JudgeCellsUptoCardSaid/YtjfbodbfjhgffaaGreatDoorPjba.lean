/-
  A part of the proofs of renlaw25.JudgeErases and renlaw25.JudgeCells: each law returns true for every input of the stated bulk and leaves its arguments as they were; no further condition.
  By an AI agent; no person has read it.
-/
import Derived.Test.YtjfbodbfjhgffaaGreatDoorPjal
import Derived.Test.YtjfbodbfjhgffaaGreatDoorPjan
import Derived.Test.YtjfbodbfjhgffaaGreatDoorPjao
import Derived.Test.YtjfbodbfjhgffaaGreatDoorPjap
import Derived.Test.YtjfbodbfjhgffaaGreatDoorPjaq
import Derived.Test.YtjfbodbfjhgffaaGreatDoorPjar
import Derived.Test.YtjfbodbfjhgffaaGreatDoorPjas
import Derived.Test.YtjfbodbfjhgffaaGreatDoorPjat
import Derived.Test.YtjfbodbfjhgffaaGreatDoorPjau
import Derived.Test.YtjfbodbfjhgffaaGreatDoorPjav
import Derived.Test.YtjfbodbfjhgffaaGreatDoorPjaw
import Derived.Test.YtjfbodbfjhgffaaGreatDoorPjax
import Derived.Test.YtjfbodbfjhgffaaGreatDoorPjay
import Derived.Test.YtjfbodbfjhgffaaGreatDoorPjaz
import Derived.KernelRfl
import Derived.Test.YtjfbodbfjhgffaaGreatDoorProg
set_option linter.all false
set_option linter.deprecated false
set_option maxRecDepth 100000
set_option linter.unusedVariables false
namespace Go.Mach
open Go.Proofs
theorem HasL.c{l r:List Spec}{sp:Spec}{ann:Ann}(h:Eqn (Q l) sp ann)(t:HasL r)[b:HasL l]:HasL (sp::r) :=
 have:=Has.of h
 inferInstance
theorem HasL.d{r:List Spec}{sp:Spec}(t:HasL r)[b:Has sp]:HasL (sp::r):=inferInstance
theorem HasL.a{l r:List Spec}(h:HasL l)(t:HasL r):HasL (l++r):=⟨λsp hm=>(List.mem_append.1 hm).elim (h.ok sp) (t.ok sp)⟩
theorem HasL.k{E:Env}{r:List Spec}{sp:Spec}{ann:Ann}{run:dens (sp.ps.map Par.v)->Res (outs (dens sp.rs) (boxes sp.ps))}(h:Eqn E sp ann)(t:HasL r)(hP:E.P=Tryz.prog:=by rfl)(h0:∀ x,run x=.stuck:=by exact λ_=>rfl):HasL (⟨sp.f,sp.ps,sp.rs,run⟩::r) :=
 have:=Has.stuck h hP h0
 inferInstance
theorem HasL.g{l:List Spec}{sp:Spec}(i:Nat)(h:l[i]?=some sp)[b:HasL l]:Has sp:=⟨b.ok sp (List.mem_of_getElem? h)⟩
instance {l r:List Spec} [a:HasL l] [b:HasL r]:HasL (l++r):=a.a b
instance h0:HasL L0:=inferInstanceAs (HasL [cloneSpec 160 (.int .u16),cloneSpec 161 (.int .u32),cloneSpec 162 (.int .i64),cloneSpecN 120 159 T_api_Node,cloneSpec 443 (.int .u8),cloneSpecN 112 441 T_heap_Prop,cloneSpecN 112 442 T_heap_Slot,cloneSpec 431 .str,sort3Spec 15 16,cloneSpec 197 T_eval_Ans])
instance parse_lay.ok:∀ n,Has (parse_lay.spec n)
 |0=>.stuck (parse_lay.eq 0) rfl λ_=>rfl
 |n+1=>have:=parse_lay.ok n;.of (parse_lay.eq n)
instance wait_New.ok:Has wait_New.spec:=.env wait_New.eq rfl rfl
instance h1:HasL L1:=.c cmp_isNaN_int.eq (.c judge_Erase.eq (.c eval_May.eq (.c utf8_DecodeRune.eq (.c lex_blank.eq (.c lex_line.eq (.c lex_reader_has.eq (.c lex_letter.eq (.c lex_digit.eq (.c lex_reader_strange_1.eq (.c text_Ascii.eq (.c text_blank.eq (.c text_digit.eq (.c slices_Index_uint16.eq (.c slices_Equal_uint16.eq (.c text_value.eq (.c text_Plain.eq (.c lex_Sign.eq (.c parse_made.eq (.c parse_parser_now.eq (.c parse_is.eq (.c parse_named.eq (.c tree_operators.eq (.c slices_Index_string.eq (.d (.c tree_Deep.eq (.c slices_Max_int.eq (.c tree_order.eq (.c num_May.eq (.c tree_shape.eq (.c tree_kinds.eq (.c tree_Statement.eq (.c tree_Expression.eq (.c early_parents.eq (.c early_declares.eq (.c early_function.eq (.d (.c block_New.eq (.c fifo_New.eq (.c post_New.eq (.c agent_tree.eq (.c heap_New.eq (.c heap_own.eq (.c eval_run_declare.eq (.c eval_run_begins.eq (.c conv_Num.eq (.c heap_zero.eq (.c num_isNaN.eq (.c num_isInf.eq (.c num_whole.eq (.c eval_run_result.eq (.c cluster_Cluster_has_1.eq (.c cluster_Cluster_has.eq (.c agent_Agent_Ask.eq (.c shared_Shared_Events_1.eq (.c shared_Shared_Events.eq (.c event_Head.eq (.c event_Reads.eq (.c event_Writes.eq (.c event_within.eq (.c rel_empty.eq (.c event_Equal.eq (.c model_places.eq (.c rel_Rel_List.eq (.c cell_kind.eq (.c judge_Judge_1.eq (.c cluster_Cluster_Len_1.eq (.c cluster_Cluster_Len.eq (.c slices_EqualFunc_eventEvent__event_alike.eq (.c slices_Equal_2int.eq (.c cluster_Cluster_Said_1.eq (.c cluster_Cluster_Said.eq (.c slices_Equal_string.eq (.c bytes_Clone.eq (.c fifo_Queue_List.eq (.c fifo_Queue_Flush.eq (.c shared_Shared_drain.eq (.c bytes_Equal.eq (.c shared_Shared_agent_1.eq (.c shared_Shared_agent.eq (.c fifo_Queue_Len.eq (.c agent_Agent_Count.eq (.c slices_Equal_uint32.eq (.c slices_Equal_int.eq (.c agent_Agent_Answers.eq (.c slices_EqualFunc_evalAns__judge_answer.eq (.c renlaw24_Acts.eq (.c renref24_Erase.eq (.c renlaw14_Few.eq (.c renlaw14_Event.eq (.c renref14_Reads.eq (.c renref14_Writes.eq (.c renref14_Covers.eq (.c renref14_wrote.eq (.c renref24_less.eq (.c renref18_Good.eq (.c renref14_Equal.eq (h0)))))))))))))))))))))))))))))))))))))))))))))))))))))))))))))))))))))))))))))))))))))))))))))))))
instance post_New.ok:Has post_New.spec:=.of post_New.eq
instance cluster_Cluster_has_1.ok:Has cluster_Cluster_has_1.spec:=.of cluster_Cluster_has_1.eq
instance cluster_Cluster_has.ok:Has cluster_Cluster_has.spec:=.of cluster_Cluster_has.eq
instance shared_Shared_Events_1.ok:Has shared_Shared_Events_1.spec:=.of shared_Shared_Events_1.eq
instance shared_Shared_Events.ok:Has shared_Shared_Events.spec:=.of shared_Shared_Events.eq
instance cluster_Cluster_Len_1.ok:Has cluster_Cluster_Len_1.spec:=.of cluster_Cluster_Len_1.eq
instance cluster_Cluster_Len.ok:Has cluster_Cluster_Len.spec:=.of cluster_Cluster_Len.eq
instance cluster_Cluster_Said_1.ok:Has cluster_Cluster_Said_1.spec:=.of cluster_Cluster_Said_1.eq
instance cluster_Cluster_Said.ok:Has cluster_Cluster_Said.spec:=.of cluster_Cluster_Said.eq
instance shared_Shared_drain.ok:Has shared_Shared_drain.spec:=.of shared_Shared_drain.eq
instance shared_Shared_agent_1.ok:Has shared_Shared_agent_1.spec:=.of shared_Shared_agent_1.eq
instance shared_Shared_agent.ok:Has shared_Shared_agent.spec:=.of shared_Shared_agent.eq
instance fifo_Queue_Len.ok:Has fifo_Queue_Len.spec:=.of fifo_Queue_Len.eq
instance shared_Shared_Pending_1.ok:Has shared_Shared_Pending_1.spec:=.inl shared_Shared_Pending_1.eq rfl rfl (inl_of_exec (E:=shared_Shared_Pending_1_in.env Tryz.prog) mixed (.of_specs (HasL.ok (l:=[shared_Shared_agent_1.spec])) rfl) (by kernel_rfl) (by kernel_rfl) (by kernel_rfl) (by kernel_rfl))
instance shared_Shared_Pending.ok:Has shared_Shared_Pending.spec:=.inl shared_Shared_Pending.eq rfl rfl (inl_of_exec (E:=shared_Shared_Pending_in.env Tryz.prog) mixed (.of_specs (HasL.ok (l:=[shared_Shared_agent.spec])) rfl) (by kernel_rfl) (by kernel_rfl) (by kernel_rfl) (by kernel_rfl))
instance h2:HasL L2:=.c cmp_Compare_int.eq (.c cluster_May.eq (.c text_Units.eq (.c lex_reader_pass.eq (.c lex_reader_is__lex_digit.eq (.c lex_reader_is__lex_reader_strange_1.eq (.c lex_reader_is__lex_letter.eq (.c slices_Contains_uint16.eq (.c text_Same.eq (.c text_Number_1.eq (.c parse_parser_on.eq (.c slices_Contains_string.eq (.c parse_binds.eq (.c parse_flat.eq (.c tree_fits.eq (.c early_names.eq (.c shared_New_1.eq (.c shared_New.eq (.c heap_copied.eq (.c heap_May.eq (.c num_as.eq (.c num_Of.eq (.c oper_numbered.eq (.c cluster_Cluster_over_1.eq (.c cluster_Cluster_over.eq (.c cluster_Cluster_Events_1.eq (.c cluster_Cluster_Events.eq (.c event_Copy.eq (.c event_fields.eq (.c event_Covers.eq (.c event_Overlap.eq (.c slices_IndexFunc_int__judge_Judge_1.eq (.c event_Same.eq (.c block_Blocks_Copy.eq (.c fifo_Queue_Copy.eq (.c fifo_Queue_Drain.eq (.c block_Blocks_All.eq (.c slices_EqualFunc_sbyte__bytes_Equal.eq (.d (.d (.c agent_Agent_Tree.eq (.c tree_Same_1.eq (.c cluster_Cluster_Answers_1.eq (.c cluster_Cluster_Answers.eq (.c renlaw14_Log.eq (.c renref14_shape.eq (.c renref14_read.eq (.c renref14_Overlap.eq (h1))))))))))))))))))))))))))))))))))))))))))))))))
instance cluster_May.ok:Has cluster_May.spec:=.of cluster_May.eq
instance lex_reader_is__lex_digit.ok:Has lex_reader_is__lex_digit.spec:=.of lex_reader_is__lex_digit.eq
instance lex_reader_is__lex_reader_strange_1.ok:Has lex_reader_is__lex_reader_strange_1.spec:=.of lex_reader_is__lex_reader_strange_1.eq
instance lex_reader_is__lex_letter.ok:Has lex_reader_is__lex_letter.spec:=.of lex_reader_is__lex_letter.eq
instance slices_Contains_string.ok:Has slices_Contains_string.spec:=.of slices_Contains_string.eq
instance shared_New_1.ok:Has shared_New_1.spec:=.of shared_New_1.eq
instance shared_New.ok:Has shared_New.spec:=.of shared_New.eq
instance cluster_Cluster_over_1.ok:Has cluster_Cluster_over_1.spec:=.of cluster_Cluster_over_1.eq
instance cluster_Cluster_over.ok:Has cluster_Cluster_over.spec:=.of cluster_Cluster_over.eq
instance cluster_Cluster_Events_1.ok:Has cluster_Cluster_Events_1.spec:=.of cluster_Cluster_Events_1.eq
instance cluster_Cluster_Events.ok:Has cluster_Cluster_Events.spec:=.of cluster_Cluster_Events.eq
instance cluster_Cluster_Answers_1.ok:Has cluster_Cluster_Answers_1.spec:=.of cluster_Cluster_Answers_1.eq
instance cluster_Cluster_Answers.ok:Has cluster_Cluster_Answers.spec:=.of cluster_Cluster_Answers.eq
instance tree_named.ok:Has tree_named.spec:=.inl tree_named.eq rfl rfl (inl_of_exec (E:=tree_named_in.env Tryz.prog) mixed (.of_specs (HasL.ok (l:=[])) rfl) (by kernel_rfl) (by kernel_rfl) (by kernel_rfl) (by kernel_rfl))
instance h3:HasL L3:=.c slices_Compare_int.eq (.c lex_reader_run__lex_digit.eq (.c lex_reader_strange.eq (.c text_strange.eq (.c slices_IndexFunc_uint16__text_Number_1.eq (.c lex_reader_sign.eq (.c parse_parser_take.eq (.c parse_parser_arrow.eq (.c tree_Op.eq (.d (.c tree_kids.eq (.c early_twice.eq (.c early_hides_1.eq (.c heap_Heap_Make.eq (.c conv_Clean.eq (.c num_Add.eq (.c cluster_Cluster_status_1.eq (.c cluster_Cluster_status.eq (.c shared_Shared_Log_1.eq (.c shared_Shared_Log.eq (.c event_reads.eq (.c shared_Shared_drain_1.eq (.c shared_Shared_Bytes_1.eq (.c shared_Shared_Bytes.eq (.c cluster_Cluster_Tree_1.eq (.c cluster_Cluster_Tree.eq (.c slices_EqualFunc_apiNode__tree_Same_1.eq (.c renref14_May.eq (h2))))))))))))))))))))))))))))
instance cluster_Cluster_status_1.ok:Has cluster_Cluster_status_1.spec:=.of cluster_Cluster_status_1.eq
instance cluster_Cluster_status.ok:Has cluster_Cluster_status.spec:=.of cluster_Cluster_status.eq
instance shared_Shared_Log_1.ok:Has shared_Shared_Log_1.spec:=.of shared_Shared_Log_1.eq
instance shared_Shared_Log.ok:Has shared_Shared_Log.spec:=.of shared_Shared_Log.eq
instance shared_Shared_drain_1.ok:Has shared_Shared_drain_1.spec:=.of shared_Shared_drain_1.eq
instance shared_Shared_Bytes_1.ok:Has shared_Shared_Bytes_1.spec:=.of shared_Shared_Bytes_1.eq
instance shared_Shared_Bytes.ok:Has shared_Shared_Bytes.spec:=.of shared_Shared_Bytes.eq
instance cluster_Cluster_Tree_1.ok:Has cluster_Cluster_Tree_1.spec:=.of cluster_Cluster_Tree_1.eq
instance cluster_Cluster_Tree.ok:Has cluster_Cluster_Tree.spec:=.of cluster_Cluster_Tree.eq
instance h4:HasL L4:=.c judge_Cells_1.eq (.c slices_ContainsFunc_uint16__text_Number_1.eq (.c parse_parser_ends.eq (.c tree_fields.eq (.c slices_IndexFunc_string__early_hides_1.eq (.c eval_run_cell.eq (.c cluster_Cluster_step_1.eq (.c cluster_Cluster_step.eq (.c cluster_Cluster_Log_1.eq (.c cluster_Cluster_Log.eq (.c event_May.eq (.c shared_Shared_Copy_1.eq (.c shared_Shared_Copy.eq (.c cluster_Cluster_View_1.eq (.c cluster_Cluster_View.eq (.c tree_Same.eq (.c renref18_Clean.eq (h3)))))))))))))))))
instance cluster_Cluster_step_1.ok:Has cluster_Cluster_step_1.spec:=.of cluster_Cluster_step_1.eq
instance cluster_Cluster_step.ok:Has cluster_Cluster_step.spec:=.of cluster_Cluster_step.eq
instance cluster_Cluster_Log_1.ok:Has cluster_Cluster_Log_1.spec:=.of cluster_Cluster_Log_1.eq
instance cluster_Cluster_Log.ok:Has cluster_Cluster_Log.spec:=.of cluster_Cluster_Log.eq
instance shared_Shared_Copy_1.ok:Has shared_Shared_Copy_1.spec:=.of shared_Shared_Copy_1.eq
instance shared_Shared_Copy.ok:Has shared_Shared_Copy.spec:=.of shared_Shared_Copy.eq
instance cluster_Cluster_View_1.ok:Has cluster_Cluster_View_1.spec:=.of cluster_Cluster_View_1.eq
instance cluster_Cluster_View.ok:Has cluster_Cluster_View.spec:=.of cluster_Cluster_View.eq
instance hM_parseG:∀ n,HasL (M_parseG (parseG n))
 |0=>.k (parse_parser_item.eq (parseG 0)) (.k (parse_parser_statement.eq (parseG 0)) (.k (parse_parser_assign.eq (parseG 0)) (.k (parse_parser_simple.eq (parseG 0)) (.k (parse_parser_cond.eq (parseG 0)) (.k (parse_parser_either.eq (parseG 0)) (.k (parse_parser_level.eq (parseG 0)) (.k (parse_parser_both.eq (parseG 0)) (.k (parse_parser_unary.eq (parseG 0)) (.k (parse_parser_calls.eq (parseG 0)) (.k (parse_parser_head.eq (parseG 0)) (.k (parse_parser_member.eq (parseG 0)) (.k (parse_parser_primary.eq (parseG 0)) (inferInstance)))))))))))))
 |n+1 =>
  have:=hM_parseG n
  .c (parse_parser_item.eq (parseG n)) (.c (parse_parser_statement.eq (parseG n)) (.c (parse_parser_assign.eq (parseG n)) (.c (parse_parser_simple.eq (parseG n)) (.c (parse_parser_cond.eq (parseG n)) (.c (parse_parser_either.eq (parseG n)) (.c (parse_parser_level.eq (parseG n)) (.c (parse_parser_both.eq (parseG n)) (.c (parse_parser_unary.eq (parseG n)) (.c (parse_parser_calls.eq (parseG n)) (.c (parse_parser_head.eq (parseG n)) (.c (parse_parser_member.eq (parseG n)) (.c (parse_parser_primary.eq (parseG n)) (inferInstance)))))))))))))
instance h5:HasL L5:=.c text_Number.eq (.c tree_May_1.eq (.c tree_May.eq (.c slices_ContainsFunc_string__early_hides_1.eq (.c eval_run_scope.eq (.c cluster_Cluster_Do_1.eq (.c cluster_Cluster_Do.eq (.c model_Natural.eq (.c rel_Sync.eq (.c model_TearFree.eq (.c cell_Clean.eq (.c shared_Shared_Final_1.eq (.c shared_Shared_Final.eq (.c renref24_Cells.eq ((.a (hM_parseG fuel) h4)))))))))))))))
instance tree_May_1.ok:Has tree_May_1.spec:=.of tree_May_1.eq
instance tree_May.ok:Has tree_May.spec:=.of tree_May.eq
instance cluster_Cluster_Do_1.ok:Has cluster_Cluster_Do_1.spec:=.of cluster_Cluster_Do_1.eq
instance cluster_Cluster_Do.ok:Has cluster_Cluster_Do.spec:=.of cluster_Cluster_Do.eq
instance cell_Clean.ok:Has cell_Clean.spec:=.of cell_Clean.eq
instance shared_Shared_Final_1.ok:Has shared_Shared_Final_1.spec:=.of shared_Shared_Final_1.eq
instance shared_Shared_Final.ok:Has shared_Shared_Final.spec:=.of shared_Shared_Final.eq
instance judge_Cells.ok:Has judge_Cells.spec:=.env judge_Cells.eq rfl rfl
instance h6:HasL L6:=.c lex_reader_number.eq (.c parse_parser_program.eq (.c early_hides.eq (.c conv_Number.eq (.c rel_Before.eq (.d (.c cluster_Cluster_Run_1.eq (.c cluster_Cluster_Run.eq (.c cluster_Cluster_Final_1.eq (.c cluster_Cluster_Final.eq (h5))))))))))
instance cluster_Cluster_Run_1.ok:Has cluster_Cluster_Run_1.spec:=.of cluster_Cluster_Run_1.eq
instance cluster_Cluster_Run.ok:Has cluster_Cluster_Run.spec:=.of cluster_Cluster_Run.eq
instance cluster_Cluster_Final_1.ok:Has cluster_Cluster_Final_1.spec:=.of cluster_Cluster_Final_1.eq
instance cluster_Cluster_Final.ok:Has cluster_Cluster_Final.spec:=.of cluster_Cluster_Final.eq
instance h7:HasL L7:=.c lex_reader_token.eq (.c early_wrong.eq (.c conv_Numeric.eq (.c model_Coherent.eq (.c model_Ordered.eq (.c judge_clean.eq (.c race_Conflicts.eq (.c judge_Alike.eq (h6))))))))
instance h8:HasL L8:=.c lex_Tokens.eq (.c early_Check.eq (.c oper_numerics.eq (.c model_Atomic.eq (.c race_Datas.eq (.c race_First.eq (h7))))))
instance h9:HasL L9:=.c parse_Parse.eq (.c oper_sums.eq (.c model_Valid.eq (h8)))
instance h10:HasL L10:=.c early_Accept.eq (.c oper_Binary.eq (h9))
instance early_Accept.ok:Has early_Accept.spec:=.of early_Accept.eq
instance hM_evalG:∀ n,HasL (M_evalG (evalG n))
 |0=>.k (eval_run_list.eq (evalG 0)) (.k (eval_run_statement.eq (evalG 0)) (.k (eval_run_act.eq (evalG 0)) (.k (eval_run_expression.eq (evalG 0)) (.k (eval_run_value.eq (evalG 0)) (.k (eval_run_operation.eq (evalG 0)) (.k (eval_run_binary.eq (evalG 0)) (inferInstance)))))))
 |n+1 =>
  have:=hM_evalG n
  .c (eval_run_list.eq (evalG n)) (.c (eval_run_statement.eq (evalG n)) (.c (eval_run_act.eq (evalG n)) (.c (eval_run_expression.eq (evalG n)) (.c (eval_run_value.eq (evalG n)) (.c (eval_run_operation.eq (evalG n)) (.c (eval_run_binary.eq (evalG n)) (inferInstance)))))))
instance h11:HasL L11:=(.a (hM_evalG fuel) h10)
instance h12:HasL L12:=.c eval_run_program.eq (h11)
instance h13:HasL L13:=.c eval_Resume.eq (h12)
instance h14:HasL L14:=.c agent_Agent_goes.eq (h13)
instance h15:HasL L15:=.c agent_New.eq (h14)
instance agent_New.ok:Has agent_New.spec:=.of agent_New.eq
instance cluster_New_1.ok:Has cluster_New_1.spec:=.env cluster_New_1.eq rfl rfl
instance cluster_New.ok:Has cluster_New.spec:=.env cluster_New.eq rfl rfl
instance h16:HasL L16:=.d (.d (h15))
instance h17:HasL L17:=.c judge_Run.eq (h16)
instance h18:HasL L18:=.c judge_Judge.eq (h17)
instance h19:HasL L19:=.c renlaw25_first.eq (h18)
instance h20:HasL L20:=.c renlaw25_JudgeErases.eq (.c renlaw25_JudgeCells.eq (h19))
instance renlaw25_JudgeErases.ok:Has renlaw25_JudgeErases.spec:=.of renlaw25_JudgeErases.eq
instance renlaw25_JudgeCells.ok:Has renlaw25_JudgeCells.spec:=.of renlaw25_JudgeCells.eq
end Go.Mach

