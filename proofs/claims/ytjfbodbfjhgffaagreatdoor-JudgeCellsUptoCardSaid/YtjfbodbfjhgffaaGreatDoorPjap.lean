/-
  A part of the proofs of renlaw25.JudgeErases and renlaw25.JudgeCells: each law returns true for every input of the stated bulk and leaves its arguments as they were; no further condition.
  By an AI agent; no person has read it.
-/
import Derived.Test.YtjfbodbfjhgffaaGreatDoorPjai
import Derived.KernelRfl
import Derived.Test.YtjfbodbfjhgffaaGreatDoorProg
set_option linter.all false
set_option linter.deprecated false
set_option linter.unusedVariables false
set_option maxRecDepth 100000
namespace Go.Mach
open Go.Proofs
theorem judge_Judge.eq:Eqn (Q (cluster_Cluster_Do_1.spec::cluster_Cluster_Events_1.spec::cluster_Cluster_Log_1.spec::cluster_New_1.spec::L17)) judge_Judge.spec (zA 0x38ea1188a188200142110685128a8158f815828838121685128a814809158262988382521311111):=eqn Tryz.f14
theorem shared_Shared_Copy_1.eq:Eqn (Q (shared_Shared_Log_1.spec::L3)) shared_Shared_Copy_1.spec (zA 0x4714828188b81620214714828178c81626191521211):=eqn Tryz.f193
theorem model_places.eq:Eqn (Q L0) model_places.spec (zA 0x5899106a10142212211121009a8218202885210081109a82325304200811f8b8232536491521200081173810820210081164810826b815213111):=eqn Tryz.f127
theorem parse_parser_level.eq(G:G_parseG):Eqn (Q (M_parseG G++L4)) (parse_parser_level.g.sp 439 λx=>R.parse_parser_level G x.1 x.2) (zA 0x6835802f81817202106835802f8181720522111):=eqn Tryz.f439
theorem cluster_Cluster_Answers_1.eq:Eqn (Q (cluster_Cluster_has_1.spec::L1)) cluster_Cluster_Answers_1.spec (zA 0x780168610c81014221):=eqn Tryz.f84
theorem early_parents.eq:Eqn (Q L0) early_parents.spec (zA 0x82118a810820410082108b8108262915211221100821a82812253021008219838122536a815212111):=eqn Tryz.f157
theorem block_Blocks_Copy.eq:Eqn (Q L1) block_Blocks_Copy.spec (zA 0x8821d80816202108821c8181626681521211):=eqn Tryz.f250
theorem block_Blocks_All.eq:Eqn (Q L1) block_Blocks_All.spec (zA 0x386162a9412100287162618a942521211):=eqn Tryz.f253
theorem fifo_Queue_List.eq:Eqn (Q L0) fifo_Queue_List.spec (zA 0x286162c9412100187162618c942521211):=eqn Tryz.f303
theorem cluster_Cluster_step.eq:Eqn (Q (cluster_Cluster_has.spec::cluster_Cluster_status.spec::shared_Shared_Events.spec::L3)) cluster_Cluster_step.spec (zA 0x982810391014221):=eqn Tryz.f57
theorem renlaw14_Few.eq:Eqn (Q L0) renlaw14_Few.spec (zA 0x18081098101422001a7166121000a08162662521211):=eqn Tryz.f9
theorem judge_clean.eq:Eqn (Q L6) judge_clean.spec (zA 0x684121330210058512133618152121):=eqn Tryz.f32
theorem event_Overlap.eq:Eqn (Q L1) event_Overlap.spec (zA 0x9610691014221):=eqn Tryz.f24
theorem cluster_Cluster_Events_1.eq:Eqn (Q (shared_Shared_Events_1.spec::L1)) cluster_Cluster_Events_1.spec .none:=eqn Tryz.f28
theorem cluster_Cluster_Final.eq:Eqn (Q (shared_Shared_Final.spec::L5)) cluster_Cluster_Final.spec .none:=eqn Tryz.f77
theorem shared_Shared_Bytes.eq:Eqn (Q L2) shared_Shared_Bytes.spec .none:=eqn Tryz.f195
theorem shared_Shared_Log.eq:Eqn (Q L2) shared_Shared_Log.spec .none:=eqn Tryz.f62
theorem text_Number_1.eq:Eqn (Q L1) text_Number_1.spec .none:=eqn Tryz.f369
theorem cluster_May.eq:Eqn (Q L1) cluster_May.spec .none:=eqn Tryz.f51
theorem early_function.eq:Eqn (Q L0) early_function.spec .none:=eqn Tryz.f282
theorem parse_named.eq:Eqn (Q L0) parse_named.spec .none:=eqn Tryz.f316
theorem block_New.eq:Eqn (Q L0) block_New.spec .none:=eqn Tryz.f108
end Go.Mach

