/-
  Proved here: any log of at most 40 events and 20000 bytes is told by the lines that the document tells (renlaw26.ScriptEvents), where what is read is of bulk at most 1048576 and the library's variables are laid as the program's text lays them.
  Part Eqs of the texts. By an AI agent; no person has read it.
-/
import Derived.Test.YtediejlokhnldaaDoorFns
import Derived.KernelRfl
import Derived.Test.YtediejlokhnldaaDoorProg
set_option linter.all false
set_option linter.deprecated false
set_option maxRecDepth 100000
set_option linter.unusedVariables false
namespace Go.Mach
open Go.Proofs
theorem script_words.eq  : runBody script_words.env Tryd.f30 script_words.ps script_words.rs script_words.ann () = R.script_words  := by kernel_rfl

theorem renref24_Print.eq (a0 : T_cluster_Act.den) : runBody renref24_Print.env Tryd.f13 renref24_Print.ps renref24_Print.rs renref24_Print.ann a0 = R.renref24_Print a0 := by kernel_rfl

theorem script_Opts.eq (b0 : (List Int)) : runBody script_Opts.env Tryd.f17 script_Opts.ps script_Opts.rs script_Opts.ann b0 = R.script_Opts b0 := by kernel_rfl

theorem cluster_May.eq (o0 : T_cluster_Opts.den) : runBody cluster_May.env Tryd.f22 cluster_May.ps cluster_May.rs cluster_May.ann o0 = R.cluster_May o0 := by kernel_rfl

theorem renlaw14_Event.eq (e0 : T_event_Event.den) : runBody renlaw14_Event.env Tryd.f45 renlaw14_Event.ps renlaw14_Event.rs renlaw14_Event.ann e0 = R.renlaw14_Event e0 := by kernel_rfl

end Go.Mach

set_option maxRecDepth 100000
set_option linter.unusedVariables false
namespace Go.Mach
open Go.Proofs
theorem script_Parse.eq (s0 : (List UInt8)) : runBody script_Parse.env Tryd.f10 script_Parse.ps script_Parse.rs script_Parse.ann s0 = R.script_Parse s0 := by kernel_rfl

theorem renlaw26_same.eq (a0 : T_cluster_Act.den) (b1 : T_cluster_Act.den) : runBody renlaw26_same.env Tryd.f14 renlaw26_same.ps renlaw26_same.rs renlaw26_same.ann (a0, b1) = R.renlaw26_same a0 b1 := by kernel_rfl

theorem renref24_at.eq (b0 : (List Int)) (i1 : Int) : runBody renref24_at.env Tryd.f36 renref24_at.ps renref24_at.rs renref24_at.ann (b0, i1) = R.renref24_at b0 i1 := by kernel_rfl

theorem renlaw26_ScriptBytes.eq (b0 : (List Int)) : runBody renlaw26_ScriptBytes.env Tryd.f6 renlaw26_ScriptBytes.ps renlaw26_ScriptBytes.rs renlaw26_ScriptBytes.ann b0 = R.renlaw26_ScriptBytes b0 := by kernel_rfl

theorem renlaw14_Log.eq (l0 : T_event_Log.den) : runBody renlaw14_Log.env Tryd.f27 renlaw14_Log.ps renlaw14_Log.rs renlaw14_Log.ann l0 = R.renlaw14_Log l0 := by kernel_rfl

end Go.Mach

set_option maxRecDepth 100000
set_option linter.unusedVariables false
namespace Go.Mach
open Go.Proofs
theorem script_Print.eq (a0 : T_cluster_Act.den) : runBody script_Print.env Tryd.f12 script_Print.ps script_Print.rs script_Print.ann a0 = R.script_Print a0 := by kernel_rfl

theorem renlaw26_ScriptLines.eq (a0 : T_cluster_Act.den) (s1 : (List UInt8)) : runBody renlaw26_ScriptLines.env Tryd.f3 renlaw26_ScriptLines.ps renlaw26_ScriptLines.rs renlaw26_ScriptLines.ann (a0, s1) = R.renlaw26_ScriptLines a0 s1 := by kernel_rfl

theorem renref24_OptsOf.eq (b0 : (List Int)) : runBody renref24_OptsOf.env Tryd.f18 renref24_OptsOf.ps renref24_OptsOf.rs renref24_OptsOf.ann b0 = R.renref24_OptsOf b0 := by kernel_rfl

theorem renlaw14_Few.eq (l0 : T_event_Log.den) (most1 : Int) : runBody renlaw14_Few.env Tryd.f23 renlaw14_Few.ps renlaw14_Few.rs renlaw14_Few.ann (l0, most1) = R.renlaw14_Few l0 most1 := by kernel_rfl

theorem renref24_bytes.eq (word0 : (List UInt8)) (b1 : (List Int)) : runBody renref24_bytes.env Tryd.f44 renref24_bytes.ps renref24_bytes.rs renref24_bytes.ann (word0, b1) = R.renref24_bytes word0 b1 := by kernel_rfl

end Go.Mach

set_option maxRecDepth 100000
set_option linter.unusedVariables false
namespace Go.Mach
open Go.Proofs
theorem renlaw26_first.eq  : runBody renlaw26_first.env Tryd.f9 renlaw26_first.ps renlaw26_first.rs renlaw26_first.ann () = R.renlaw26_first  := by kernel_rfl

theorem renlaw26_ScriptBack.eq (a0 : T_cluster_Act.den) (s1 : (List UInt8)) : runBody renlaw26_ScriptBack.env Tryd.f4 renlaw26_ScriptBack.ps renlaw26_ScriptBack.rs renlaw26_ScriptBack.ann (a0, s1) = R.renlaw26_ScriptBack a0 s1 := by kernel_rfl

theorem renref24_Acts.eq (b0 : (List Int)) : runBody renref24_Acts.env Tryd.f19 renref24_Acts.ps renref24_Acts.rs renref24_Acts.ann b0 = R.renref24_Acts b0 := by kernel_rfl

theorem script_line_word.eq (l0 : (List UInt8)) (s1 : (List UInt8)) : runBody script_line_word.env Tryd.f40 script_line_word.ps script_line_word.rs script_line_word.ann (l0, s1) = R.script_line_word l0 s1 := by kernel_rfl

theorem renref24_Events.eq (l0 : T_event_Log.den) : runBody renref24_Events.env Tryd.f26 renref24_Events.ps renref24_Events.rs renref24_Events.ann l0 = R.renref24_Events l0 := by kernel_rfl

end Go.Mach

set_option maxRecDepth 100000
set_option linter.unusedVariables false
namespace Go.Mach
open Go.Proofs
theorem renref24_words.eq  : runBody renref24_words.env Tryd.f33 renref24_words.ps renref24_words.rs renref24_words.ann () = R.renref24_words  := by kernel_rfl

theorem script_act.eq (k0 : Int) (z1 : Int) : runBody script_act.env Tryd.f35 script_act.ps script_act.rs script_act.ann (k0, z1) = R.script_act k0 z1 := by kernel_rfl

theorem renlaw12_Limits.eq (l0 : T_cluster_Act.den) : runBody renlaw12_Limits.env Tryd.f37 renlaw12_Limits.ps renlaw12_Limits.rs renlaw12_Limits.ann l0 = R.renlaw12_Limits l0 := by kernel_rfl

theorem script_line_number.eq (l0 : (List UInt8)) (n1 : (List Int)) : runBody script_line_number.env Tryd.f39 script_line_number.ps script_line_number.rs script_line_number.ann (l0, n1) = R.script_line_number l0 n1 := by kernel_rfl

theorem renref_Texts.eq (a0 : (List (List UInt8))) (b1 : (List (List UInt8))) : runBody renref_Texts.env Tryd.f24 renref_Texts.ps renref_Texts.rs renref_Texts.ann (a0, b1) = R.renref_Texts a0 b1 := by kernel_rfl

end Go.Mach

set_option maxRecDepth 100000
set_option linter.unusedVariables false
namespace Go.Mach
open Go.Proofs
theorem renref_Dec.eq (fu : Nat) (n0 : Int) : runBody (renref_Dec.env fu) Tryd.f28 renref_Dec.ps renref_Dec.rs renref_Dec.ann n0 = R.renref_Dec (fu + 1) n0 := by kernel_rfl

theorem script_Acts.eq (b0 : (List Int)) : runBody script_Acts.env Tryd.f15 script_Acts.ps script_Acts.rs script_Acts.ann b0 = R.script_Acts b0 := by kernel_rfl

theorem renlaw24_Opts.eq (o0 : T_cluster_Opts.den) : runBody renlaw24_Opts.env Tryd.f20 renlaw24_Opts.ps renlaw24_Opts.rs renlaw24_Opts.ann o0 = R.renlaw24_Opts o0 := by kernel_rfl

theorem script_kind.eq (k0 : Int) : runBody script_kind.env Tryd.f41 script_kind.ps script_kind.rs script_kind.ann k0 = R.script_kind k0 := by kernel_rfl

theorem renlaw26_ScriptEvents.eq (l0 : T_event_Log.den) : runBody renlaw26_ScriptEvents.env Tryd.f7 renlaw26_ScriptEvents.ps renlaw26_ScriptEvents.rs renlaw26_ScriptEvents.ann l0 = R.renlaw26_ScriptEvents l0 := by kernel_rfl

end Go.Mach

set_option maxRecDepth 100000
set_option linter.unusedVariables false
namespace Go.Mach
open Go.Proofs
theorem renref24_number.eq (s0 : (List UInt8)) : runBody renref24_number.env Tryd.f34 renref24_number.ps renref24_number.rs renref24_number.ann s0 = R.renref24_number s0 := by kernel_rfl

theorem renlaw26_ScriptCuts.eq (b0 : (List Int)) (at1 : Int) : runBody renlaw26_ScriptCuts.env Tryd.f5 renlaw26_ScriptCuts.ps renlaw26_ScriptCuts.rs renlaw26_ScriptCuts.ann (b0, at1) = R.renlaw26_ScriptCuts b0 at1 := by kernel_rfl

theorem renref_Bytes.eq (a0 : (List Int)) (b1 : (List Int)) : runBody renref_Bytes.env Tryd.f21 renref_Bytes.ps renref_Bytes.rs renref_Bytes.ann (a0, b1) = R.renref_Bytes a0 b1 := by kernel_rfl

theorem script_line_bytes.eq (l0 : (List UInt8)) (s1 : (List UInt8)) (b2 : (List Int)) : runBody script_line_bytes.env Tryd.f42 script_line_bytes.ps script_line_bytes.rs script_line_bytes.ann (l0, (s1, b2)) = R.script_line_bytes l0 s1 b2 := by kernel_rfl

theorem renlaw26_ScriptCounts.eq (l0 : T_event_Log.den) : runBody renlaw26_ScriptCounts.env Tryd.f8 renlaw26_ScriptCounts.ps renlaw26_ScriptCounts.rs renlaw26_ScriptCounts.ann l0 = R.renlaw26_ScriptCounts l0 := by kernel_rfl

end Go.Mach

set_option maxRecDepth 100000
set_option linter.unusedVariables false
namespace Go.Mach
open Go.Proofs
theorem renref24_Parse.eq (s0 : (List UInt8)) : runBody renref24_Parse.env Tryd.f11 renref24_Parse.ps renref24_Parse.rs renref24_Parse.ann s0 = R.renref24_Parse s0 := by kernel_rfl

theorem renref_CopyBytes.eq (u0 : (List Int)) : runBody renref_CopyBytes.env Tryd.f16 renref_CopyBytes.ps renref_CopyBytes.rs renref_CopyBytes.ann u0 = R.renref_CopyBytes u0 := by kernel_rfl

theorem eval_May.eq (lim0 : T_cluster_Act.den) : runBody eval_May.env Tryd.f38 eval_May.ps eval_May.rs eval_May.ann lim0 = R.eval_May lim0 := by kernel_rfl

theorem script_Events.eq (l0 : T_event_Log.den) : runBody script_Events.env Tryd.f25 script_Events.ps script_Events.rs script_Events.ann l0 = R.script_Events l0 := by kernel_rfl

end Go.Mach
