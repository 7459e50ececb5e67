/-
  A part of the proofs of renlaw25.JudgeErases and renlaw25.JudgeCells: each law returns true for every input of the stated bulk and leaves its arguments as they were; no further condition.
  By an AI agent; no person has read it.
-/
import Derived.Shelf.SlLaysF0
import Derived.KernelRfl
import Derived.Test.YtjfbodbfjhgffaaGreatDoorProg
set_option linter.all false
set_option linter.deprecated false
set_option maxRecDepth 100000
namespace Go.Mach
open Go.Proofs Go.Shelf
def sortLay_ren:Go.Shelf.Ren:=⟨λ|6=>15|15=>41|14=>40|28=>94|29=>95|20=>86|21=>87|22=>88|23=>89|24=>90|25=>91|26=>92|27=>93|46=>145|47=>146|48=>147|49=>148|50=>149|57=>198|n=>n,λ|22=>37|24=>44|25=>63|3=>3|39=>87|0=>0|53=>159|55=>145|4=>4|46=>152|45=>151|50=>156|5=>5|9=>9|66=>227|70=>231|76=>299|77=>300|n=>n,λ|n=>n⟩
theorem sortLay:Go.Proofs.SlLaysF0.n6 Tryz.prog sortLay_ren where
 mixed:=by kernel_rfl
 f6:=⟨Tryz.f15.name,by decide,Tryz.func15.trans (congrArg some (by kernel_rfl))⟩
 f14:=⟨Tryz.f40.name,by decide,Tryz.func40.trans (congrArg some (by kernel_rfl))⟩
 f15:=Tryz.func41.trans (congrArg some (by kernel_rfl))
 f20:=⟨Tryz.f86.name,by decide,Tryz.func86.trans (congrArg some (by kernel_rfl))⟩
 f21:=⟨Tryz.f87.name,by decide,Tryz.func87.trans (congrArg some (by kernel_rfl))⟩
 f22:=⟨Tryz.f88.name,by decide,Tryz.func88.trans (congrArg some (by kernel_rfl))⟩
 f23:=⟨Tryz.f89.name,by decide,Tryz.func89.trans (congrArg some (by kernel_rfl))⟩
 f24:=⟨Tryz.f90.name,by decide,Tryz.func90.trans (congrArg some (by kernel_rfl))⟩
 f25:=⟨Tryz.f91.name,by decide,Tryz.func91.trans (congrArg some (by kernel_rfl))⟩
 f26:=⟨Tryz.f92.name,by decide,Tryz.func92.trans (congrArg some (by kernel_rfl))⟩
 f27:=⟨Tryz.f93.name,by decide,Tryz.func93.trans (congrArg some (by kernel_rfl))⟩
 f28:=Tryz.func94.trans (congrArg some (by kernel_rfl))
 f29:=Tryz.func95.trans (congrArg some (by kernel_rfl))
 f46:=⟨Tryz.f145.name,by decide,Tryz.func145.trans (congrArg some (by kernel_rfl))⟩
 f47:=Tryz.func146.trans (congrArg some (by kernel_rfl))
 f48:=Tryz.func147.trans (congrArg some (by kernel_rfl))
 f49:=⟨Tryz.f148.name,by decide,Tryz.func148.trans (congrArg some (by kernel_rfl))⟩
 f50:=⟨Tryz.f149.name,by decide,Tryz.func149.trans (congrArg some (by kernel_rfl))⟩
 f57:=⟨Tryz.f198.name,by decide,Tryz.func198.trans (congrArg some (by kernel_rfl))⟩
 t0:=Tryz.underlying0
 a0:=Tryz.isAgg0
 z0:=Tryz.sizeOf0
 v0:=Tryz.zeroValue0
 t3:=Tryz.underlying3
 a3:=Tryz.isAgg3
 z3:=Tryz.sizeOf3
 v3:=Tryz.zeroValue3
 t4:=Tryz.underlying4
 a4:=Tryz.isAgg4
 z4:=Tryz.sizeOf4
 v4:=Tryz.zeroValue4
 t5:=Tryz.underlying5
 a5:=Tryz.isAgg5
 z5:=Tryz.sizeOf5
 v5:=Tryz.zeroValue5
 t9:=Tryz.underlying9
 a9:=Tryz.isAgg9
 z9:=Tryz.sizeOf9
 v9:=Tryz.zeroValue9
 t22:=Tryz.underlying37
 a22:=Tryz.isAgg37
 z22:=Tryz.sizeOf37
 v22:=Tryz.zeroValue37
 t25:=Tryz.underlying63
 a25:=Tryz.isAgg63
 z25:=Tryz.sizeOf63
 v25:=Tryz.zeroValue63
 t39:=Tryz.underlying87
 a39:=Tryz.isAgg87
 z39:=Tryz.sizeOf87
 v39:=Tryz.zeroValue87
 t45:=Tryz.underlying151
 a45:=Tryz.isAgg151
 z45:=Tryz.sizeOf151
 v45:=Tryz.zeroValue151
 t46:=Tryz.underlying152
 a46:=Tryz.isAgg152
 z46:=Tryz.sizeOf152
 v46:=Tryz.zeroValue152
 t50:=Tryz.underlying156
 a50:=Tryz.isAgg156
 z50:=Tryz.sizeOf156
 v50:=Tryz.zeroValue156
 t53:=Tryz.underlying159
 a53:=Tryz.isAgg159
 z53:=Tryz.sizeOf159
 v53:=Tryz.zeroValue159
 t55:=Tryz.underlying145
 a55:=Tryz.isAgg145
 z55:=Tryz.sizeOf145
 v55:=Tryz.zeroValue145
 t66:=Tryz.underlying227
 a66:=Tryz.isAgg227
 z66:=Tryz.sizeOf227
 v66:=Tryz.zeroValue227
 t70:=Tryz.underlying231
 a70:=Tryz.isAgg231
 z70:=Tryz.sizeOf231
 v70:=Tryz.zeroValue231
 t76:=Tryz.underlying299
 a76:=Tryz.isAgg299
 z76:=Tryz.sizeOf299
 v76:=Tryz.zeroValue299
 t77:=Tryz.underlying300
 a77:=Tryz.isAgg300
 z77:=Tryz.sizeOf300
 v77:=Tryz.zeroValue300
end Go.Mach

