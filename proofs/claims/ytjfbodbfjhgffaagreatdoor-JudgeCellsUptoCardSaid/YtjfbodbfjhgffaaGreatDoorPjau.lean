/-
  A part of the proofs of renlaw25.JudgeErases and renlaw25.JudgeCells: each law returns true for every input of the stated bulk and leaves its arguments as they were; no further condition.
  By an AI agent; no person has read it.
-/
import Derived.Test.YtjfbodbfjhgffaaGreatDoorPjai
import Derived.KernelRfl
import Derived.Test.YtjfbodbfjhgffaaGreatDoorProg
set_option linter.all false
set_option linter.deprecated false
set_option linter.unusedVariables false
set_option maxRecDepth 100000
namespace Go.Mach
open Go.Proofs
theorem tree_order.eq:Eqn (Q L0) tree_order.spec (zA 0x984a105b101422221161069991314303111610699914133884142161069d913264884252100048a8106910142221007888103111310c88818841024312211004b44420311004b432133884122003b5321336088842521211):=eqn Tryz.f206
theorem lex_reader_sign.eq:Eqn (Q (lex_reader_is__lex_digit.spec::L2)) lex_reader_sign.spec (zA 0xc8ac10ed1014221000683a101b101422122106915902ca58352641100ca5844202200ca582214365152311):=eqn Tryz.f264
theorem race_Conflicts.eq:Eqn (Q L6) race_Conflicts.spec (zA 0x1610a8681724841411610a8d816448425211221100091826248412100f828262658484252121111):=eqn Tryz.f33
theorem cell_Clean.eq:Eqn (Q L4) cell_Clean.spec (zA 0x5889105a101421221100b88814820181100b88813118302200a89813118364915212100075810c81014231):=eqn Tryz.f13
theorem rel_Before.eq:Eqn (Q L5) rel_Before.spec (zA 0xa869108a10142221002b68362041002b68272661521221008b08452021008b08362651521211):=eqn Tryz.f68
theorem cluster_Cluster_status.eq:Eqn (Q (cluster_Cluster_over.spec::L2)) cluster_Cluster_status.spec (zA 0x382b101b101421000584a103a101431000586910591014311221111):=eqn Tryz.f113
theorem parse_parser_program.eq:Eqn (Q L5) parse_parser_program.spec (zA 0x1312935802386102113129358023861052211):=eqn Tryz.f152
theorem text_Plain.eq:Eqn (Q L0) text_Plain.spec (zA 0x48312153028b32100483132336b51220038413233666b52521211):=eqn Tryz.f313
theorem cluster_Cluster_step_1.eq:Eqn (Q (cluster_Cluster_has_1.spec::cluster_Cluster_status_1.spec::shared_Shared_Events_1.spec::L3)) cluster_Cluster_step_1.spec (zA 0x982810391014221):=eqn Tryz.f57
theorem slices_EqualFunc_eventEvent__event_alike.eq:Eqn (Q L0) slices_EqualFunc_eventEvent__event_alike.spec (zA 0x78084720210068184726a81521211):=eqn Tryz.f133
theorem early_hides.eq:Eqn (Q L5) early_hides.spec (zA 0x591810e91014221):=eqn Tryz.f211
theorem heap_May.eq:Eqn (Q L1) heap_May.spec (zA 0x21810081014221211):=eqn Tryz.f393
theorem num_Of.eq:Eqn (Q L1) num_Of.spec (zA 0x5510281014221):=eqn Tryz.f563
theorem slices_Contains_string.eq:Eqn (Q L1) slices_Contains_string.spec .none:=eqn Tryz.f279
theorem tree_Op.eq:Eqn (Q L2) tree_Op.spec .none:=eqn Tryz.f378
theorem parse_parser_take.eq:Eqn (Q L2) parse_parser_take.spec .none:=eqn Tryz.f268
theorem heap_Heap_Make.eq:Eqn (Q L2) heap_Heap_Make.spec .none:=eqn Tryz.f385
theorem shared_Shared_Events.eq:Eqn (Q L0) shared_Shared_Events.spec .none:=eqn Tryz.f61
theorem tree_Expression.eq:Eqn (Q L0) tree_Expression.spec .none:=eqn Tryz.f332
theorem renref14_Equal.eq:Eqn (Q L0) renref14_Equal.spec .none:=eqn Tryz.f47
theorem lex_letter.eq:Eqn (Q L0) lex_letter.spec .none:=eqn Tryz.f258
theorem cell_kind.eq:Eqn (Q L0) cell_kind.spec .none:=eqn Tryz.f23
end Go.Mach

