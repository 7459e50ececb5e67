/-
  A part of the proofs of renlaw25.JudgeErases and renlaw25.JudgeCells: each law returns true for every input of the stated bulk and leaves its arguments as they were; no further condition.
  By an AI agent; no person has read it.
-/
import Derived.KernelRfl
import GoSem.ClaimDataLaid
import Derived.Test.YtjfbodbfjhgffaaGreatDoorProg
set_option linter.all false
set_option linter.deprecated false
set_option maxRecDepth 100000
namespace Go.Mach
open Go.Proofs
theorem all_r{p:Nat->Bool}{a k:Nat}(h:(List.range' a k).all p=true)(t:∀ x < a,p x=true):∀ x < a+k,p x=true:=λx hx=>by
 rcases Nat.lt_or_ge x a with g|g
 ·exact t x g
 ·exact List.all_eq_true.1 h x (List.mem_range'_1.2 ⟨g,hx⟩)
theorem all_l{α:Type}{l:List α}{p:α->Bool}{a k:Nat}(h:((l.drop a).take k).all p=true)(t:(l.take a).all p=true):(l.take (a+k)).all p=true:=by
 rw [List.take_add,List.all_append,t,h];rfl
theorem laid_of{P:Program}{n m:Nat}(hn:P.types.size=n)(hr:∀ t < n,rowFine P t=true)(hg:P.globals.all (λg=>decide (g.type < P.types.size))=true)(hm:P.funcs.toList.length<=m)(hf:(P.funcs.toList.take m).all (λf=>f.params.all λt=>decide (t < P.types.size))=true):laidOutB P=true:=by
 unfold laidOutB;rw [List.take_of_length_le hm] at hf
 have h1:P.funcs.all (λf=>f.params.all λt=>decide (t < P.types.size))=true:=by rw [<- Array.all_toList];exact hf
 rw [h1,hg,Bool.and_true,Bool.and_true,List.all_eq_true,hn];exact λt ht=>hr t (List.mem_range.1 ht)
theorem lr0:(List.range' 0 175).all (rowFine Tryz.prog)=true:=by kernel_rfl
theorem lr1:(List.range' 175 175).all (rowFine Tryz.prog)=true:=by kernel_rfl
theorem lr2:(List.range' 350 175).all (rowFine Tryz.prog)=true:=by kernel_rfl
theorem lr3:(List.range' 525 174).all (rowFine Tryz.prog)=true:=by kernel_rfl
theorem lf0:((Tryz.prog.funcs.toList.drop 0).take 179).all (λf=>f.params.all λt=>decide (t < Tryz.prog.types.size))=true:=by kernel_rfl
theorem lf1:((Tryz.prog.funcs.toList.drop 179).take 179).all (λf=>f.params.all λt=>decide (t < Tryz.prog.types.size))=true:=by kernel_rfl
theorem lf2:((Tryz.prog.funcs.toList.drop 358).take 179).all (λf=>f.params.all λt=>decide (t < Tryz.prog.types.size))=true:=by kernel_rfl
theorem lf3:((Tryz.prog.funcs.toList.drop 537).take 177).all (λf=>f.params.all λt=>decide (t < Tryz.prog.types.size))=true:=by kernel_rfl
theorem laid:laidOutB Tryz.prog=true:=laid_of (n:=699) (m:=714) (by kernel_rfl) (all_r lr3 (all_r lr2 (all_r lr1 (all_r lr0 (λ_ h=>absurd h (Nat.not_lt_zero _)))))) (by kernel_rfl) (Nat.le_of_ble_eq_true (by kernel_rfl)) (all_l lf3 (all_l lf2 (all_l lf1 (all_l lf0 rfl))))
end Go.Mach

