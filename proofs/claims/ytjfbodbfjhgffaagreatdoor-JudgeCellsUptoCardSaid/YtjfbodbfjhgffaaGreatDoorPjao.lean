/-
  A part of the proofs of renlaw25.JudgeErases and renlaw25.JudgeCells: each law returns true for every input of the stated bulk and leaves its arguments as they were; no further condition.
  By an AI agent; no person has read it.
-/
import Derived.Test.YtjfbodbfjhgffaaGreatDoorPjai
import Derived.KernelRfl
import Derived.Test.YtjfbodbfjhgffaaGreatDoorProg
set_option linter.all false
set_option linter.deprecated false
set_option linter.unusedVariables false
set_option maxRecDepth 100000
namespace Go.Mach
open Go.Proofs
theorem judge_Alike.eq:Eqn (Q (cluster_Cluster_Answers.spec::cluster_Cluster_Answers_1.spec::cluster_Cluster_Final.spec::cluster_Cluster_Final_1.spec::cluster_Cluster_Len.spec::cluster_Cluster_Len_1.spec::cluster_Cluster_Log.spec::cluster_Cluster_Log_1.spec::cluster_Cluster_Said.spec::cluster_Cluster_Said_1.spec::cluster_Cluster_Tree.spec::cluster_Cluster_Tree_1.spec::cluster_Cluster_View.spec::cluster_Cluster_View_1.spec::L6)) judge_Alike.spec (zA 0x582683b224916823a1b10cd1014211122115826869224916824b8956205115826869224916824b896520225826869224916823b9965262a15212058268122491682493810f91014231):=eqn Tryz.f39
theorem judge_Cells.eq:Eqn ({ P:=Tryz.prog,specs:=[cell_Clean.spec,sort3Spec 15 16],ety:=etyOf Tryz.prog owned,maps:=mapsOf,kok:=mapsOk }:Env) judge_Cells.spec (zA 0x1510a80910f9084201422510f80912820842014211221114105a52314328512114104a627261828208435212111):=eqn Tryz.f10
theorem tree_kids.eq:Eqn (Q L2) tree_kids.spec (zA 0x184d103d101421122000087a163810142112211000969318205110009693415302200f8793415361a15213000382910d9101423111):=eqn Tryz.f208
theorem rel_Rel_List.eq:Eqn (Q L0) rel_Rel_List.spec (zA 0x131068481624841411310585816267848425211221100e8525248412100d862526084842521211):=eqn Tryz.f128
theorem eval_run_value.eq(G:G_evalG):Eqn (Q (M_evalG G++L10)) (eval_run_value.g.sp 446 λx=>R.eval_run_value G x.1 x.2.1 x.2.2) (zA 0x2cc10bc1014211111111100025a104a101431111111121211):=eqn Tryz.f446
theorem cluster_Cluster_View.eq:Eqn (Q (cluster_Cluster_has.spec::cluster_Cluster_status.spec::shared_Shared_Pending.spec::L3)) cluster_Cluster_View.spec (zA 0x77a10ea10142200798168991001431111):=eqn Tryz.f79
theorem parse_lay.eq(fu:Nat):Eqn (Q ((parse_lay.spec fu)::L0)) (parse_lay.g.sp 205 λx=>R.parse_lay (fu+1) x.1 x.2) (zA 0x151181138c81182887121151181128d811826f8887252121111):=eqn Tryz.f205
theorem early_Check.eq:Eqn (Q (tree_May.spec::L7)) early_Check.spec (zA 0x1818162626321001818122330220008281223367815212111):=eqn Tryz.f107
theorem race_Datas.eq:Eqn (Q L7) race_Datas.spec (zA 0x78416248412100685162674842521211):=eqn Tryz.f34
theorem slices_Max_int.eq:Eqn (Q L0) slices_Max_int.spec (zA 0x48081526412100485816264252121000361001431):=eqn Tryz.f154
theorem tree_fields.eq:Eqn (Q L3) tree_fields.spec (zA 0x2fa10ea101422120007a410ba1014231):=eqn Tryz.f207
theorem eval_run_expression.eq(G:G_evalG):Eqn (Q (M_evalG G++L10)) (eval_run_expression.g.sp 423 λx=>R.eval_run_expression G x.1 x.2.1 x.2.2) .none:=eqn Tryz.f423
theorem eval_run_program.eq:Eqn (Q L11) eval_run_program.spec .none:=eqn Tryz.f217
theorem early_Accept.eq:Eqn (Q L9) early_Accept.spec .none:=eqn Tryz.f52
theorem cluster_Cluster_Log_1.eq:Eqn (Q (shared_Shared_Log_1.spec::L3)) cluster_Cluster_Log_1.spec .none:=eqn Tryz.f29
theorem judge_Run.eq:Eqn (Q (cluster_Cluster_Run.spec::cluster_New.spec::L16)) judge_Run.spec .none:=eqn Tryz.f38
theorem agent_Agent_goes.eq:Eqn (Q L13) agent_Agent_goes.spec .none:=eqn Tryz.f111
theorem shared_Shared_agent_1.eq:Eqn (Q L0) shared_Shared_agent_1.spec .none:=eqn Tryz.f184
theorem event_Copy.eq:Eqn (Q L1) event_Copy.spec .none:=eqn Tryz.f124
theorem early_declares.eq:Eqn (Q L0) early_declares.spec .none:=eqn Tryz.f280
theorem event_within.eq:Eqn (Q L0) event_within.spec .none:=eqn Tryz.f50
theorem lex_digit.eq:Eqn (Q L0) lex_digit.spec .none:=eqn Tryz.f260
end Go.Mach

