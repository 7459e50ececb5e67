/-
  A part of the proofs of renlaw25.JudgeErases and renlaw25.JudgeCells: each law returns true for every input of the stated bulk and leaves its arguments as they were; no further condition.
  By an AI agent; no person has read it.
-/
import Derived.Test.YtjfbodbfjhgffaaGreatDoorPjai
import Derived.KernelRfl
import Derived.Test.YtjfbodbfjhgffaaGreatDoorProg
set_option linter.all false
set_option linter.deprecated false
set_option linter.unusedVariables false
set_option maxRecDepth 100000
namespace Go.Mach
open Go.Proofs
theorem cluster_Cluster_Run_1.eq:Eqn (Q (cluster_Cluster_Do_1.spec::L5)) cluster_Cluster_Run_1.spec (zA 0x681116812871082661216811168118081082628662521211):=eqn Tryz.f71
theorem event_May.eq:Eqn (Q L3) event_May.spec (zA 0x98da10eb101421221100f82a172031100f82a1413304200e83a1413369a15212000a829104a101421221100198824203110019883320220009983326d815213000180810981014231):=eqn Tryz.f22
theorem parse_binds.eq:Eqn (Q L1) parse_binds.spec (zA 0x3f910e91014210002c910b9101431000389107910143100052910191014310004d810c8101431111112120007410381014231):=eqn Tryz.f455
theorem tree_May_1.eq:Eqn (Q L4) tree_May_1.spec (zA 0x19a9103b1014212211006939142031100693923202200594923267915212000e8510391014231):=eqn Tryz.f156
theorem cluster_Cluster_Answers.eq:Eqn (Q (cluster_Cluster_has.spec::L1)) cluster_Cluster_Answers.spec (zA 0x780168610c81014221):=eqn Tryz.f84
theorem renref14_shape.eq:Eqn (Q L1) renref14_shape.spec (zA 0x4bd1651014200047d164101431000698b106d101423100098610f81014231):=eqn Tryz.f43
theorem renlaw14_Log.eq:Eqn (Q L1) renlaw14_Log.spec (zA 0xb821b8510210b821a861651521211):=eqn Tryz.f12
theorem eval_run_operation.eq(G:G_evalG):Eqn (Q (M_evalG G++L10)) (eval_run_operation.g.sp 464 λx=>R.eval_run_operation G x.1 x.2.1 x.2.2.1 x.2.2.2) (zA 0x2b910a9101421121211):=eqn Tryz.f464
theorem utf8_DecodeRune.eq:Eqn (Q L0) utf8_DecodeRune.spec (zA 0x183162620a32100183122330220008412233618152121):=eqn Tryz.f150
theorem renlaw24_Acts.eq:Eqn (Q L0) renlaw24_Acts.spec (zA 0x2951284121001961622842521211):=eqn Tryz.f8
theorem shared_Shared_Pending.eq:Eqn ({ P:=Tryz.prog,specs:=[],ety:=etyOf Tryz.prog owned,inls:=[inlFn 119 (shared_Shared_Pending_in.env Tryz.prog) Tryz.f119 .none] }:Env) shared_Shared_Pending.spec .none:=eqn Tryz.f137
theorem conv_Number.eq:Eqn (Q L5) conv_Number.spec (zA 0x2781068101421121211):=eqn Tryz.f522
theorem num_May.eq:Eqn (Q L0) num_May.spec (zA 0x498108810142112121):=eqn Tryz.f272
theorem conv_Numeric.eq:Eqn (Q L6) conv_Numeric.spec .none:=eqn Tryz.f500
theorem cluster_Cluster_over_1.eq:Eqn (Q L1) cluster_Cluster_over_1.spec .none:=eqn Tryz.f117
theorem tree_Same.eq:Eqn (Q L3) tree_Same.spec .none:=eqn Tryz.f81
theorem cmp_Compare_int.eq:Eqn (Q L1) cmp_Compare_int.spec .none:=eqn Tryz.f42
theorem parse_flat.eq:Eqn (Q L1) parse_flat.spec .none:=eqn Tryz.f153
theorem agent_Agent_Count.eq:Eqn (Q L0) agent_Agent_Count.spec .none:=eqn Tryz.f138
theorem fifo_Queue_Len.eq:Eqn (Q L0) fifo_Queue_Len.spec .none:=eqn Tryz.f196
theorem event_Reads.eq:Eqn (Q L0) event_Reads.spec .none:=eqn Tryz.f101
theorem heap_zero.eq:Eqn (Q L0) heap_zero.spec .none:=eqn Tryz.f432
end Go.Mach

