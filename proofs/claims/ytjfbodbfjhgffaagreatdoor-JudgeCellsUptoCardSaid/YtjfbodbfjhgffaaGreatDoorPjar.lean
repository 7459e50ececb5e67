/-
  A part of the proofs of renlaw25.JudgeErases and renlaw25.JudgeCells: each law returns true for every input of the stated bulk and leaves its arguments as they were; no further condition.
  By an AI agent; no person has read it.
-/
import Derived.Test.YtjfbodbfjhgffaaGreatDoorPjai
import Derived.KernelRfl
import Derived.Test.YtjfbodbfjhgffaaGreatDoorProg
set_option linter.all false
set_option linter.deprecated false
set_option linter.unusedVariables false
set_option maxRecDepth 100000
namespace Go.Mach
open Go.Proofs
theorem cluster_Cluster_Run.eq:Eqn (Q (cluster_Cluster_Do.spec::L5)) cluster_Cluster_Run.spec (zA 0x581125812871082661215811258118081082628662521211):=eqn Tryz.f71
theorem early_names.eq:Eqn (Q L1) early_names.spec (zA 0xd8fc14822a716100c80d148265d2a72521211000089c108c101431000783b102b1014300049c821822a71310039d821826092a72521300008b810a81014322111):=eqn Tryz.f210
theorem text_strange.eq:Eqn (Q L2) text_strange.spec (zA 0x6d810a810142110068b810a8101422000558104101431221100593121430311005931313304122004941313366042521211):=eqn Tryz.f366
theorem tree_May.eq:Eqn (Q L4) tree_May.spec (zA 0x19a9103b1014212211006939142031100693923202200594923267915212000e8510391014231):=eqn Tryz.f156
theorem cluster_Cluster_Tree_1.eq:Eqn (Q (cluster_Cluster_has_1.spec::L2)) cluster_Cluster_Tree_1.spec (zA 0x780168610c81014221):=eqn Tryz.f82
theorem model_Coherent.eq:Eqn (Q L6) model_Coherent.spec (zA 0xe8982413304100d8a824133619152112211007918421330210069284213369815212111):=eqn Tryz.f63
theorem renref24_Erase.eq:Eqn (Q L0) renref24_Erase.spec (zA 0x5848101910142221004951284121003961622842521211):=eqn Tryz.f7
theorem parse_parser_item.eq(G:G_parseG):Eqn (Q (M_parseG G++L4)) (parse_parser_item.g.sp 204 λx=>R.parse_parser_item G x) (zA 0x6281018101422121):=eqn Tryz.f204
theorem cluster_New_1.eq:Eqn ({ P:=Tryz.prog,specs:=[agent_New.spec,cluster_May.spec,early_Accept.spec,post_New.spec,shared_New_1.spec,wait_New.spec],ety:=etyOf Tryz.prog owned,maps:=mapsOf,kok:=mapsOk }:Env) cluster_New_1.spec .none:=eqn Tryz.f26
theorem slices_Equal_uint32.eq:Eqn (Q L0) slices_Equal_uint32.spec (zA 0x580816205110058082520220048182526681521211):=eqn Tryz.f141
theorem lex_reader_strange_1.eq:Eqn (Q L0) lex_reader_strange_1.spec (zA 0x648103810142100047106101432121):=eqn Tryz.f364
theorem fifo_Queue_Drain.eq:Eqn (Q L1) fifo_Queue_Drain.spec (zA 0x35102100351052):=eqn Tryz.f252
theorem renref24_less.eq:Eqn (Q L0) renref24_less.spec (zA 0x70707072121):=eqn Tryz.f19
theorem cluster_Cluster_Final_1.eq:Eqn (Q (shared_Shared_Final_1.spec::L5)) cluster_Cluster_Final_1.spec .none:=eqn Tryz.f77
theorem shared_Shared_drain_1.eq:Eqn (Q L2) shared_Shared_drain_1.spec .none:=eqn Tryz.f194
theorem eval_Resume.eq:Eqn (Q L12) eval_Resume.spec .none:=eqn Tryz.f163
theorem agent_Agent_Tree.eq:Eqn (Q L1) agent_Agent_Tree.spec .none:=eqn Tryz.f143
theorem event_Covers.eq:Eqn (Q L1) event_Covers.spec .none:=eqn Tryz.f103
theorem conv_Clean.eq:Eqn (Q L2) conv_Clean.spec .none:=eqn Tryz.f340
theorem renref14_wrote.eq:Eqn (Q L0) renref14_wrote.spec .none:=eqn Tryz.f100
theorem bytes_Clone.eq:Eqn (Q L0) bytes_Clone.spec .none:=eqn Tryz.f294
theorem num_isNaN.eq:Eqn (Q L0) num_isNaN.spec .none:=eqn Tryz.f513
end Go.Mach

