/-
  Proved here: the law renlaw12.EvalMore returns true for every input of the stated bulk and leaves its arguments as they were; no further condition.
  By an AI agent; no person has read it.
-/
import Derived.Test.YtdmjcmcdgepoeaaGreatDoorPartc
import Derived.KernelRfl
import Derived.Test.YtdmjcmcdgepoeaaGreatDoorProg
set_option linter.all false
set_option linter.deprecated false
set_option linter.unusedVariables false
set_option maxRecDepth 20000
noncomputable section
namespace Go.Mach
open Res
abbrev eval_run_list.g:Sg:=⟨[.obj aG,.val false (.frz (.list (.int .i64))),.val true (.frz aO)],[(true,(.frz aV))]⟩
abbrev eval_run_statement.g:Sg:=⟨[.obj aG,.i,.val true (.frz aO),.val false (.frz (.list .str))],[(true,(.frz aV))]⟩
abbrev eval_run_act.g:Sg:=⟨[.obj aG,.i,.val true (.frz aO),.val false (.frz (.list .str))],[(true,(.frz aV))]⟩
abbrev eval_run_expression.g:Sg:=⟨[.obj aG,.i,.val true (.frz aO)],[(true,(.frz aC)),vi]⟩
abbrev eval_run_block.g:Sg:=⟨[.obj aG,.i,.val true (.frz aO)],[(true,(.frz aV))]⟩
abbrev eval_run_decls.g:Sg:=⟨[.obj aG,.val false (.frz (.list (.int .i64))),.val true (.frz aO)],[(true,(.frz aV))]⟩
abbrev eval_run_choice.g:Sg:=⟨[.obj aG,.val false (.frz (.list (.int .i64))),.val true (.frz aO)],[(true,(.frz aV))]⟩
abbrev eval_run_while.g:Sg:=⟨[.obj aG,.val false (.frz (.list (.int .i64))),.val true (.frz aO),.val false (.frz (.list .str))],[(true,(.frz aV))]⟩
abbrev eval_run_loop.g:Sg:=⟨[.obj aG,.val false (.frz (.list (.int .i64))),.val true (.frz aO),.val false (.frz (.list .str))],[(true,(.frz aV))]⟩
abbrev eval_run_try.g:Sg:=⟨[.obj aG,.val false (.frz (.list (.int .i64))),.val true (.frz aO)],[(true,(.frz aV))]⟩
abbrev eval_run_value.g:Sg:=⟨[.obj aG,.i,.val true (.frz aO)],[(true,(.frz aC)),vi]⟩
abbrev eval_run_asked.g:Sg:=⟨[.obj aG,.i,.val true (.frz aO)],[vb,(true,(.frz aV))]⟩
abbrev eval_run_first.g:Sg:=⟨[.obj aG,.i,.val true (.frz aO)],[(true,(.frz aO)),(true,(.frz aV))]⟩
abbrev eval_run_catch.g:Sg:=⟨[.obj aG,.s,.i,.val true (.frz aC),.val true (.frz aO)],[(true,(.frz aV))]⟩
abbrev eval_run_array.g:Sg:=⟨[.obj aG,.val false (.frz (.list (.int .i64))),.val true (.frz aO)],[(true,(.frz aC)),vi]⟩
abbrev eval_run_object.g:Sg:=⟨[.obj aG,.val false (.frz (.list (.int .i64))),.val true (.frz aO)],[(true,(.frz aC)),vi]⟩
abbrev eval_run_operation.g:Sg:=⟨[.obj aG,.i,.val true (.frz aF),.val true (.frz aO)],[(true,(.frz aC)),vi]⟩
abbrev eval_run_unary.g:Sg:=⟨[.obj aG,.s,.i,.val true (.frz aO)],[(true,(.frz aC)),vi]⟩
abbrev eval_run_step.g:Sg:=⟨[.obj aG,.val true (.frz aF),.val true (.frz aO)],[(true,(.frz aC)),vi]⟩
abbrev eval_run_binary.g:Sg:=⟨[.obj aG,.val true (.frz aF),.val true (.frz aO)],[(true,(.frz aC)),vi]⟩
abbrev eval_run_logic.g:Sg:=⟨[.obj aG,.val true (.frz aF),.val true (.frz aO)],[(true,(.frz aC)),vi]⟩
abbrev eval_run_assign.g:Sg:=⟨[.obj aG,.val true (.frz aF),.val true (.frz aO)],[(true,(.frz aC)),vi]⟩
abbrev eval_run_callee.g:Sg:=⟨[.obj aG,.val false (.frz (.list (.int .i64))),.val true (.frz aO)],[(true,(.frz aC)),vi]⟩
abbrev eval_run_arguments.g:Sg:=⟨[.obj aG,.val false (.frz (.list (.int .i64))),.val true (.frz aO)],[(false,(.own (.frz aC))),(true,(.frz aC)),vi]⟩
abbrev eval_run_fresh.g:Sg:=⟨[.obj aG,.val true (.frz aC),.val false (.frz (.list aC))],[(true,(.frz aC)),vi]⟩
abbrev eval_run_property.g:Sg:=⟨[.obj aG,.i,.val true (.frz aO)],[(true,(.frz aC)),vi]⟩
abbrev eval_run_parts.g:Sg:=⟨[.obj aG,.i,.val true (.frz aO)],[(true,(.frz fi)),(true,(.frz aC)),vi]⟩
abbrev eval_run_called.g:Sg:=⟨[.obj aG,.i,.val true (.frz aO)],[(true,(.frz aC)),(true,(.frz aC)),vi]⟩
abbrev eval_run_call.g:Sg:=⟨[.obj aG,.val true (.frz aC),.val true (.frz aC),.val false (.frz (.list aC))],[(true,(.frz aC)),vi]⟩
abbrev eval_run_builds.g:Sg:=⟨[.obj aG,.s,.val false (.frz (.list aC))],[(true,(.frz aC)),vi]⟩
abbrev eval_run_apply.g:Sg:=⟨[.obj aG,.i,.val true (.frz aC),.val false (.frz (.list aC))],[(true,(.frz aC)),vi]⟩
abbrev eval_run_does.g:Sg:=⟨[.obj aG,.s,.val true (.frz aC),.val false (.frz (.list aC))],[(true,(.frz aC)),vi]⟩
abbrev eval_run_host.g:Sg:=⟨[.obj aG,.s,.val true (.frz aC)],[(true,(.frz aC)),vi]⟩
abbrev eval_run_receives.g:Sg:=⟨[.obj aG,.val true (.frz aC)],[(true,(.frz aC)),vi]⟩
structure au where
 eval_run_list:aG.den->(List Int)->aO.den->Res (aV.den×aG.den)
 eval_run_statement:aG.den->Int->aO.den->(List (List UInt8))->Res (aV.den×aG.den)
 eval_run_act:aG.den->Int->aO.den->(List (List UInt8))->Res (aV.den×aG.den)
 eval_run_expression:aG.den->Int->aO.den->Res ((aC.den×Int)×aG.den)
 eval_run_block:aG.den->Int->aO.den->Res (aV.den×aG.den)
 eval_run_decls:aG.den->(List Int)->aO.den->Res (aV.den×aG.den)
 eval_run_choice:aG.den->(List Int)->aO.den->Res (aV.den×aG.den)
 eval_run_while:aG.den->(List Int)->aO.den->(List (List UInt8))->Res (aV.den×aG.den)
 eval_run_loop:aG.den->(List Int)->aO.den->(List (List UInt8))->Res (aV.den×aG.den)
 eval_run_try:aG.den->(List Int)->aO.den->Res (aV.den×aG.den)
 eval_run_value:aG.den->Int->aO.den->Res ((aC.den×Int)×aG.den)
 eval_run_asked:aG.den->Int->aO.den->Res ((Bool×aV.den)×aG.den)
 eval_run_first:aG.den->Int->aO.den->Res ((aO.den×aV.den)×aG.den)
 eval_run_catch:aG.den->(List UInt8)->Int->aC.den->aO.den->Res (aV.den×aG.den)
 eval_run_array:aG.den->(List Int)->aO.den->Res ((aC.den×Int)×aG.den)
 eval_run_object:aG.den->(List Int)->aO.den->Res ((aC.den×Int)×aG.den)
 eval_run_operation:aG.den->Int->aF.den->aO.den->Res ((aC.den×Int)×aG.den)
 eval_run_unary:aG.den->(List UInt8)->Int->aO.den->Res ((aC.den×Int)×aG.den)
 eval_run_step:aG.den->aF.den->aO.den->Res ((aC.den×Int)×aG.den)
 eval_run_binary:aG.den->aF.den->aO.den->Res ((aC.den×Int)×aG.den)
 eval_run_logic:aG.den->aF.den->aO.den->Res ((aC.den×Int)×aG.den)
 eval_run_assign:aG.den->aF.den->aO.den->Res ((aC.den×Int)×aG.den)
 eval_run_callee:aG.den->(List Int)->aO.den->Res ((aC.den×Int)×aG.den)
 eval_run_arguments:aG.den->(List Int)->aO.den->Res (((List aC.den)×(aC.den×Int))×aG.den)
 eval_run_fresh:aG.den->aC.den->(List aC.den)->Res ((aC.den×Int)×aG.den)
 eval_run_property:aG.den->Int->aO.den->Res ((aC.den×Int)×aG.den)
 eval_run_parts:aG.den->Int->aO.den->Res ((fi.den×(aC.den×Int))×aG.den)
 eval_run_called:aG.den->Int->aO.den->Res ((aC.den×(aC.den×Int))×aG.den)
 eval_run_call:aG.den->aC.den->aC.den->(List aC.den)->Res ((aC.den×Int)×aG.den)
 eval_run_builds:aG.den->(List UInt8)->(List aC.den)->Res ((aC.den×Int)×aG.den)
 eval_run_apply:aG.den->Int->aC.den->(List aC.den)->Res ((aC.den×Int)×aG.den)
 eval_run_does:aG.den->(List UInt8)->aC.den->(List aC.den)->Res ((aC.den×Int)×aG.den)
 eval_run_host:aG.den->(List UInt8)->aC.den->Res ((aC.den×Int)×aG.den)
 eval_run_receives:aG.den->aC.den->Res ((aC.den×Int)×aG.den)
def R.eval_run_list (G:au) (r_0:aG.den) (l_1:(List Int)) (e_2:aO.den):Res (aV.den×aG.den) :=
 given (eval_run_list.g.i (r_0,(l_1,e_2))) (bd (loop (α:=(Int×aG.den)) (β:=(aG.den ⊕ (aG.den×aV.den))) (fun x1=>br (ilt x1.1 (l_1.length:Int)) (idx (.int .i64) l_1 x1.1 fun e2=>cl (G.eval_run_statement x1.2 e2 e_2 ([]:List (List UInt8))) eval_run_statement.g.o fun r3=>br (!(r3.1.1 == 0)) (ok (.done (.inr (r3.2,r3.1)))) (ok (.next ((w6 (x1.1+1),r3.2))))) (ok (.done (.inl x1.2)))) fuel (0,r_0)) fun x4=>sum x4 (fun x5=>ok (((0,(([]:List UInt8),zV)),x5))) (fun z6=>ok ((z6.2,z6.1))))
def R.eval_run_statement (G:au) (r_0:aG.den) (n_1:Int) (e_2:aO.den) (labels_3:(List (List UInt8))):Res (aV.den×aG.den) :=
 given (eval_run_statement.g.i (r_0,(n_1,(e_2,labels_3)))) (cl (R.bj r_0) bj.g.o fun r1=>br (!r1.1) (ok (((5,(([]:List UInt8),zV)),r1.2))) (cl (G.eval_run_act r1.2 n_1 e_2 labels_3) eval_run_act.g.o fun r2=>ok ((r2.1,(r2.2.1,(r2.2.2.1,(r2.2.2.2.1,(r2.2.2.2.2.1,(r2.2.2.2.2.2.1,(w6 (r2.2.2.2.2.2.2.1-1),r2.2.2.2.2.2.2.2))))))))))
def R.eval_run_act (G:au) (r_0:aG.den) (n_1:Int) (e_2:aO.den) (labels_3:(List (List UInt8))):Res (aV.den×aG.den) :=
 given (eval_run_act.g.i (r_0,(n_1,(e_2,labels_3)))) (idx aF r_0.1 n_1 fun e1=>br (e1.1 == 3) (idx (.int .i64) e1.2.2.2.2.2 0 fun e2=>cl (G.eval_run_expression r_0 e2 e_2) eval_run_expression.g.o fun r3=>br (!(r3.1.2 == 0)) (ok (((r3.1.2,(([]:List UInt8),r3.1.1)),r3.2))) (ok (((0,(([]:List UInt8),zV)),r3.2)))) (br (e1.1 == 4) (cl (G.eval_run_block r_0 n_1 e_2) eval_run_block.g.o fun r4=>ok r4) (bd (α:=Bool) (br (e1.1 == 5) (ok ((e1.1 == 5))) (ok ((e1.1 == 6)))) fun x5=>br x5 (cl (G.eval_run_decls r_0 e1.2.2.2.2.2 e_2) eval_run_decls.g.o fun r6=>ok r6) (br (e1.1 == 8) (cl (G.eval_run_choice r_0 e1.2.2.2.2.2 e_2) eval_run_choice.g.o fun r7=>ok r7) (br (e1.1 == 9) (cl (G.eval_run_while r_0 e1.2.2.2.2.2 e_2 labels_3) eval_run_while.g.o fun r8=>ok r8) (br (e1.1 == 10) (cl (G.eval_run_loop r_0 e1.2.2.2.2.2 e_2 labels_3) eval_run_loop.g.o fun r9=>ok r9) (br (e1.1 == 12) (ok (((1,(e1.2.1,zV)),r_0))) (br (e1.1 == 13) (ok (((2,(e1.2.1,zV)),r_0))) (br (e1.1 == 14) (br ((e1.2.2.2.2.2.length:Int) == 0) (ok (((3,(([]:List UInt8),zV)),r_0))) (idx (.int .i64) e1.2.2.2.2.2 0 fun e10=>cl (G.eval_run_expression r_0 e10 e_2) eval_run_expression.g.o fun r11=>cl (R.fF 3 r11.1.1 r11.1.2) fF.g.o fun r12=>ok ((r12,r11.2)))) (br (e1.1 == 15) (idx (.int .i64) e1.2.2.2.2.2 0 fun e13=>cl (G.eval_run_expression r_0 e13 e_2) eval_run_expression.g.o fun r14=>cl (R.fF 4 r14.1.1 r14.1.2) fF.g.o fun r15=>ok ((r15,r14.2))) (br (e1.1 == 16) (cl (G.eval_run_try r_0 e1.2.2.2.2.2 e_2) eval_run_try.g.o fun r16=>ok r16) (br (e1.1 == 18) (idx (.int .i64) e1.2.2.2.2.2 0 fun e17=>bd (ok labels_3) fun r18=>given (mi .str r18) (ai (decide ((r18.length+[e1.2.1].length)*16<=2^47)) (cl (G.eval_run_statement r_0 e17 e_2 (r18++[e1.2.1])) eval_run_statement.g.o fun r19=>bd (α:=Bool) (br (r19.1.1 == 1) (ok ((r19.1.2.1 == e1.2.1))) (ok false)) fun x20=>br x20 (ok (((0,(([]:List UInt8),zV)),r19.2))) (ok r19)))) (ok (((0,(([]:List UInt8),zV)),r_0)))))))))))))))
def R.eval_run_expression (G:au) (r_0:aG.den) (n_1:Int) (e_2:aO.den):Res ((aC.den×Int)×aG.den) :=
 given (eval_run_expression.g.i (r_0,(n_1,e_2))) (cl (R.bj r_0) bj.g.o fun r1=>br (!r1.1) (ok (((zV,5),r1.2))) (cl (G.eval_run_value r1.2 n_1 e_2) eval_run_value.g.o fun r2=>ok ((r2.1,(r2.2.1,(r2.2.2.1,(r2.2.2.2.1,(r2.2.2.2.2.1,(r2.2.2.2.2.2.1,(w6 (r2.2.2.2.2.2.2.1-1),r2.2.2.2.2.2.2.2))))))))))
def R.eval_run_block (G:au) (r_0:aG.den) (n_1:Int) (e_2:aO.den):Res (aV.den×aG.den) :=
 given (eval_run_block.g.i (r_0,(n_1,e_2))) (bd (α:=((aG.den×aO.den) ⊕ (aG.den×aV.den))) (cl (R.fI r_0.1 n_1) fI.g.o fun r1=>br (ilt 0 (r1.length:Int)) (cl (R.bS r_0 e_2.1) bS.g.o fun r2=>br (!(r2.1.2 == 0)) (ok (.inr (r2.2,(r2.1.2,(([]:List UInt8),zV))))) (cl (R.bx r2.2 n_1 (r2.1.1,e_2.2)) bx.g.o fun r3=>br (!(r3.1.2 == 0)) (ok (.inr (r3.2,(r3.1.2,(([]:List UInt8),r3.1.1))))) (ok (.inl (r3.2,(r2.1.1,e_2.2)))))) (ok (.inl (r_0,e_2)))) fun x4=>sum x4 (fun x5=>idx aF x5.1.1 n_1 fun e7=>cl (G.eval_run_list x5.1 e7.2.2.2.2.2 x5.2) eval_run_list.g.o fun r8=>ok r8) (fun z6=>ok ((z6.2,z6.1))))
def R.eval_run_decls (G:au) (r_0:aG.den) (l_1:(List Int)) (e_2:aO.den):Res (aV.den×aG.den) :=
 given (eval_run_decls.g.i (r_0,(l_1,e_2))) (bd (loop (α:=(Int×aG.den)) (β:=(aG.den ⊕ (aG.den×aV.den))) (fun x1=>br (ilt x1.1 (l_1.length:Int)) (idx (.int .i64) l_1 x1.1 fun e2=>idx aF x1.2.1 e2 fun e3=>bd (α:=((aG.den×aC.den) ⊕ (aG.den×aV.den))) (br (ilt 0 (e3.2.2.2.2.2.length:Int)) (idx (.int .i64) e3.2.2.2.2.2 0 fun e4=>cl (G.eval_run_expression x1.2 e4 e_2) eval_run_expression.g.o fun r5=>br (!(r5.1.2 == 0)) (ok (.inr (r5.2,(r5.1.2,(([]:List UInt8),r5.1.1))))) (ok (.inl (r5.2,r5.1.1)))) (ok (.inl (x1.2,zV)))) fun x6=>sum x6 (fun x7=>cl (R.cQ x7.1.2.2.2.2.1 e_2.1 e3.2.1 x7.2 true) cQ.g.o fun r9=>ok (.next ((w6 (x1.1+1),(x7.1.1,(x7.1.2.1,(x7.1.2.2.1,(x7.1.2.2.2.1,(r9.2,x7.1.2.2.2.2.2))))))))) (fun z8=>ok (.done (.inr z8)))) (ok (.done (.inl x1.2)))) fuel (0,r_0)) fun x10=>sum x10 (fun x11=>ok (((0,(([]:List UInt8),zV)),x11))) (fun z12=>ok ((z12.2,z12.1))))
def R.eval_run_choice (G:au) (r_0:aG.den) (k_1:(List Int)) (e_2:aO.den):Res (aV.den×aG.den) :=
 given (eval_run_choice.g.i (r_0,(k_1,e_2))) (idx (.int .i64) k_1 0 fun e1=>cl (G.eval_run_asked r_0 e1 e_2) eval_run_asked.g.o fun r2=>br (!(r2.1.2.1 == 0)) (ok ((r2.1.2,r2.2))) (br r2.1.1 (idx (.int .i64) k_1 1 fun e3=>cl (G.eval_run_statement r2.2 e3 e_2 ([]:List (List UInt8))) eval_run_statement.g.o fun r4=>ok r4) (br (ilt 2 (k_1.length:Int)) (idx (.int .i64) k_1 2 fun e5=>cl (G.eval_run_statement r2.2 e5 e_2 ([]:List (List UInt8))) eval_run_statement.g.o fun r6=>ok r6) (ok (((0,(([]:List UInt8),zV)),r2.2))))))
def R.eval_run_while (G:au) (r_0:aG.den) (k_1:(List Int)) (e_2:aO.den) (labels_3:(List (List UInt8))):Res (aV.den×aG.den) :=
 given (eval_run_while.g.i (r_0,(k_1,(e_2,labels_3)))) (bd (loop (α:=aG.den) (β:=(aG.den×aV.den)) (fun x1=>idx (.int .i64) k_1 0 fun e2=>cl (G.eval_run_asked x1 e2 e_2) eval_run_asked.g.o fun r3=>bd (α:=Bool) (br (!(r3.1.2.1 == 0)) (ok true) (ok ((!r3.1.1)))) fun x4=>br x4 (ok (.done ((r3.2,r3.1.2)))) (idx (.int .i64) k_1 1 fun e5=>cl (G.eval_run_statement r3.2 e5 e_2 ([]:List (List UInt8))) eval_run_statement.g.o fun r6=>cl (R.iY r6.1 labels_3) iY.g.o fun r7=>br r7.1 (ok (.next (r6.2))) (ok (.done ((r6.2,r7.2)))))) fuel r_0) fun x8=>ok ((x8.2,x8.1)))
def R.eval_run_loop (G:au) (r_0:aG.den) (k_1:(List Int)) (e_2:aO.den) (labels_3:(List (List UInt8))):Res (aV.den×aG.den) :=
 given (eval_run_loop.g.i (r_0,(k_1,(e_2,labels_3)))) (idx (.int .i64) k_1 0 fun e1=>cl (G.eval_run_first r_0 e1 e_2) eval_run_first.g.o fun r2=>br (!(r2.1.2.1 == 0)) (ok ((r2.1.2,r2.2))) (idx (.int .i64) k_1 0 fun e3=>idx aF r2.2.1 e3 fun e4=>bd (α:=((aG.den×aO.den) ⊕ (aG.den×aV.den))) (br (e4.1 == 5) (cl (R.dM r2.2 r2.1.1) dM.g.o fun r5=>br (!(r5.1.2 == 0)) (ok (.inr (r5.2,(r5.1.2,(([]:List UInt8),zV))))) (ok (.inl (r5.2,r5.1.1)))) (ok (.inl (r2.2,r2.1.1)))) fun x6=>sum x6 (fun x7=>bd (loop (α:=(aG.den×aO.den)) (β:=(aG.den×aV.den)) (fun x9=>bd (α:=(aG.den ⊕ (aG.den×aV.den))) (idx (.int .i64) k_1 1 fun e10=>idx aF x9.1.1 e10 fun e11=>br (!(e11.1 == 11)) (idx (.int .i64) k_1 1 fun e12=>cl (G.eval_run_asked x9.1 e12 x9.2) eval_run_asked.g.o fun r13=>bd (α:=Bool) (br (!(r13.1.2.1 == 0)) (ok true) (ok ((!r13.1.1)))) fun x14=>br x14 (ok (.inr (r13.2,r13.1.2))) (ok (.inl r13.2))) (ok (.inl x9.1))) fun x15=>sum x15 (fun x16=>idx (.int .i64) k_1 3 fun e18=>cl (G.eval_run_statement x16 e18 x9.2 ([]:List (List UInt8))) eval_run_statement.g.o fun r19=>cl (R.iY r19.1 labels_3) iY.g.o fun r20=>br (!r20.1) (ok (.done ((r19.2,r20.2)))) (bd (α:=((aG.den×aO.den) ⊕ (aG.den×aV.den))) (br (e4.1 == 5) (cl (R.dM r19.2 x9.2) dM.g.o fun r21=>br (!(r21.1.2 == 0)) (ok (.inr (r21.2,(r21.1.2,(([]:List UInt8),zV))))) (ok (.inl (r21.2,r21.1.1)))) (ok (.inl (r19.2,x9.2)))) fun x22=>sum x22 (fun x23=>idx (.int .i64) k_1 2 fun e25=>idx aF x23.1.1 e25 fun e26=>br (e26.1 == 11) (ok (.next (x23))) (idx (.int .i64) k_1 2 fun e27=>cl (G.eval_run_expression x23.1 e27 x23.2) eval_run_expression.g.o fun r28=>br (!(r28.1.2 == 0)) (ok (.done ((r28.2,(r28.1.2,(([]:List UInt8),r28.1.1)))))) (ok (.next ((r28.2,x23.2)))))) (fun z24=>ok (.done (z24))))) (fun z17=>ok (.done (z17)))) fuel x7) fun x29=>ok ((x29.2,x29.1))) (fun z8=>ok ((z8.2,z8.1)))))
def R.eval_run_try (G:au) (r_0:aG.den) (k_1:(List Int)) (e_2:aO.den):Res (aV.den×aG.den) :=
 given (eval_run_try.g.i (r_0,(k_1,e_2))) (idx (.int .i64) k_1 0 fun e1=>cl (G.eval_run_statement r_0 e1 e_2 ([]:List (List UInt8))) eval_run_statement.g.o fun r2=>bd (α:=(aG.den×aV.den)) (idx (.int .i64) k_1 1 fun e3=>idx aF r2.2.1 e3 fun e4=>bd (α:=Bool) (br (r2.1.1 == 4) (ok ((e4.1 == 17))) (ok false)) fun x5=>br x5 (idx (.int .i64) e4.2.2.2.2.2 0 fun e6=>cl (G.eval_run_catch r2.2 e4.2.1 e6 r2.1.2.2 e_2) eval_run_catch.g.o fun r7=>ok ((r7.2,r7.1))) (ok ((r2.2,r2.1)))) fun x8=>bd (α:=Bool) (br (x8.2.1 == 5) (ok true) (idx (.int .i64) k_1 2 fun e9=>idx aF x8.1.1 e9 fun e10=>ok ((e10.1 == 11)))) fun x11=>br x11 (ok ((x8.2,x8.1))) (idx (.int .i64) k_1 2 fun e12=>cl (G.eval_run_statement x8.1 e12 e_2 ([]:List (List UInt8))) eval_run_statement.g.o fun r13=>br (!(r13.1.1 == 0)) (ok r13) (ok ((x8.2,r13.2)))))
def R.eval_run_value (G:au) (r_0:aG.den) (n_1:Int) (e_2:aO.den):Res ((aC.den×Int)×aG.den) :=
 given (eval_run_value.g.i (r_0,(n_1,e_2))) (idx aF r_0.1 n_1 fun e1=>br (e1.1 == 30) (cl (R.cD e1.2.2.2.1) cD.g.o fun r2=>ok (((r2,0),r_0))) (br (e1.1 == 31) (cl (R.db e1.2.2.2.2.1) db.g.o fun r3=>ok (((r3,0),r_0))) (br (e1.1 == 32) (cl (R.b9 e1.2.2.1) b9.g.o fun r4=>ok (((r4,0),r_0))) (br (e1.1 == 33) (cl (R.dc r_0 e1.2.1 e_2) dc.g.o fun r5=>ok r5) (bd (α:=Bool) (br (e1.1 == 34) (ok ((e1.1 == 34))) (ok ((e1.1 == 35)))) fun x6=>br x6 (cl (R.bF (e1.1 == 34)) bF.g.o fun r7=>ok (((r7,0),r_0))) (br (e1.1 == 36) (ok ((((1,((0,0),((false,([]:List Int)),(([]:List Int),0)))),0),r_0))) (br (e1.1 == 37) (br (!e_2.2.2) (cl (R.aK r_0) aK.g.o fun r8=>ok r8) (ok (((e_2.2.1,0),r_0)))) (br (e1.1 == 38) (cl (G.eval_run_array r_0 e1.2.2.2.2.2 e_2) eval_run_array.g.o fun r9=>ok r9) (br (e1.1 == 39) (cl (G.eval_run_object r_0 e1.2.2.2.2.2 e_2) eval_run_object.g.o fun r10=>ok r10) (bd (α:=Bool) (br (e1.1 == 41) (ok ((e1.1 == 41))) (ok ((e1.1 == 42)))) fun x11=>br x11 (cl (R.cG r_0 n_1 e_2) cG.g.o fun r12=>ok r12) (cl (G.eval_run_operation r_0 n_1 e1 e_2) eval_run_operation.g.o fun r13=>ok r13)))))))))))
def R.eval_run_asked (G:au) (r_0:aG.den) (n_1:Int) (e_2:aO.den):Res ((Bool×aV.den)×aG.den) :=
 given (eval_run_asked.g.i (r_0,(n_1,e_2))) (cl (G.eval_run_expression r_0 n_1 e_2) eval_run_expression.g.o fun r1=>br (!(r1.1.2 == 0)) (ok (((false,(r1.1.2,(([]:List UInt8),r1.1.1))),r1.2))) (bd (R.fp r1.1.1) fun r2=>ok (((r2,(0,(([]:List UInt8),zV))),r1.2))))
def R.eval_run_first (G:au) (r_0:aG.den) (n_1:Int) (e_2:aO.den):Res ((aO.den×aV.den)×aG.den) :=
 given (eval_run_first.g.i (r_0,(n_1,e_2))) (idx aF r_0.1 n_1 fun e1=>br (e1.1 == 11) (ok (((e_2,(0,(([]:List UInt8),zV))),r_0))) (bd (α:=Bool) (br (e1.1 == 5) (ok ((e1.1 == 5))) (ok ((e1.1 == 6)))) fun x2=>br x2 (cl (R.bS r_0 e_2.1) bS.g.o fun r3=>br (!(r3.1.2 == 0)) (ok (((e_2,(r3.1.2,(([]:List UInt8),zV))),r3.2))) (bd (loop (α:=(Int×eW.den)) (β:=eW.den) (fun x4=>br (ilt x4.1 (e1.2.2.2.2.2.length:Int)) (idx (.int .i64) e1.2.2.2.2.2 x4.1 fun e5=>idx aF r3.2.1 e5 fun e6=>cl (R.bA x4.2 r3.1.1 e6.2.1 zV false (e1.1 == 6)) bA.g.o fun r7=>ok (.next ((w6 (x4.1+1),r7.2)))) (ok (.done (x4.2)))) fuel (0,r3.2.2.2.2.2.1)) fun x8=>cl (G.eval_run_statement (r3.2.1,(r3.2.2.1,(r3.2.2.2.1,(r3.2.2.2.2.1,(x8,r3.2.2.2.2.2.2))))) n_1 (r3.1.1,e_2.2) ([]:List (List UInt8))) eval_run_statement.g.o fun r9=>ok ((((r3.1.1,e_2.2),r9.1),r9.2)))) (cl (G.eval_run_expression r_0 n_1 e_2) eval_run_expression.g.o fun r10=>cl (R.fF 0 r10.1.1 r10.1.2) fF.g.o fun r11=>ok (((e_2,r11),r10.2)))))
def R.eval_run_catch (G:au) (r_0:aG.den) (name_1:(List UInt8)) (n_2:Int) (v_3:aC.den) (e_4:aO.den):Res (aV.den×aG.den) :=
 given (eval_run_catch.g.i (r_0,(name_1,(n_2,(v_3,e_4))))) (br (!(name_1 == ([]:List UInt8))) (cl (R.bS r_0 e_4.1) bS.g.o fun r1=>br (!(r1.1.2 == 0)) (ok (((r1.1.2,(([]:List UInt8),zV)),r1.2))) (cl (R.bA r1.2.2.2.2.2.1 r1.1.1 name_1 v_3 true false) bA.g.o fun r2=>cl (G.eval_run_statement (r1.2.1,(r1.2.2.1,(r1.2.2.2.1,(r1.2.2.2.2.1,(r2.2,r1.2.2.2.2.2.2))))) n_2 (r1.1.1,e_4.2) ([]:List (List UInt8))) eval_run_statement.g.o fun r3=>ok r3)) (cl (G.eval_run_statement r_0 n_2 e_4 ([]:List (List UInt8))) eval_run_statement.g.o fun r4=>ok r4))
def R.eval_run_array (G:au) (r_0:aG.den) (k_1:(List Int)) (e_2:aO.den):Res ((aC.den×Int)×aG.den) :=
 given (eval_run_array.g.i (r_0,(k_1,e_2))) (cl (R.aT r_0 (2,(0,(([]:List bQ.den),(([]:List bJ.den),(([]:List UInt8),(0,(0,(zV,(0,(0,(0,(0,([]:List Int)))))))))))))) aT.g.o fun r1=>br (!(r1.1.2 == 0)) (ok r1) (bd (loop (α:=(Int×aG.den)) (β:=(aG.den ⊕ (Int×(aG.den×aC.den)))) (fun x2=>br (ilt x2.1 (k_1.length:Int)) (idx (.int .i64) k_1 x2.1 fun e3=>cl (G.eval_run_expression x2.2 e3 e_2) eval_run_expression.g.o fun r4=>br (!(r4.1.2 == 0)) (ok (.done (.inr (r4.1.2,(r4.2,r4.1.1))))) (cl (R.fT x2.1) fT.g.o fun r5=>cl (R.bU r4.2.2.2.2.2.1 r1.1.1.2.2.2.2 r5 r4.1.1) bU.g.o fun r6=>ok (.next ((w6 (x2.1+1),(r4.2.1,(r4.2.2.1,(r4.2.2.2.1,(r4.2.2.2.2.1,(r6.2,r4.2.2.2.2.2.2)))))))))) (ok (.done (.inl x2.2)))) fuel (0,r1.2)) fun x7=>sum x7 (fun x8=>ok (((r1.1.1,0),x8))) (fun z9=>ok (((z9.2.2,z9.1),z9.2.1)))))
def R.eval_run_object (G:au) (r_0:aG.den) (k_1:(List Int)) (e_2:aO.den):Res ((aC.den×Int)×aG.den) :=
 given (eval_run_object.g.i (r_0,(k_1,e_2))) (cl (R.aT r_0 (1,((-1),(([]:List bQ.den),(([]:List bJ.den),(([]:List UInt8),(0,(0,(zV,(0,(0,(0,(0,([]:List Int)))))))))))))) aT.g.o fun r1=>br (!(r1.1.2 == 0)) (ok r1) (bd (loop (α:=(Int×aG.den)) (β:=(aG.den ⊕ (Int×(aG.den×aC.den)))) (fun x2=>br (ilt x2.1 (k_1.length:Int)) (idx (.int .i64) k_1 x2.1 fun e3=>idx aF x2.2.1 e3 fun e4=>idx (.int .i64) e4.2.2.2.2.2 0 fun e5=>cl (G.eval_run_expression x2.2 e5 e_2) eval_run_expression.g.o fun r6=>br (!(r6.1.2 == 0)) (ok (.done (.inr (r6.1.2,(r6.2,r6.1.1))))) (cl (R.aj [95,95,112,114,111,116,111,95,95]) aj.g.o fun r7=>bd (R.gn e4.2.2.1 r7) fun r8=>br r8 (cl (R.aK r6.2) aK.g.o fun r9=>ok (.done (.inr (r9.1.2,(r9.2,r9.1.1))))) (cl (R.bU r6.2.2.2.2.2.1 r1.1.1.2.2.2.2 e4.2.2.1 r6.1.1) bU.g.o fun r10=>ok (.next ((w6 (x2.1+1),(r6.2.1,(r6.2.2.1,(r6.2.2.2.1,(r6.2.2.2.2.1,(r10.2,r6.2.2.2.2.2.2))))))))))) (ok (.done (.inl x2.2)))) fuel (0,r1.2)) fun x11=>sum x11 (fun x12=>ok (((r1.1.1,0),x12))) (fun z13=>ok (((z13.2.2,z13.1),z13.2.1)))))
def R.eval_run_operation (G:au) (r_0:aG.den) (n_1:Int) (x_2:aF.den) (e_3:aO.den):Res ((aC.den×Int)×aG.den) :=
 given (eval_run_operation.g.i (r_0,(n_1,(x_2,e_3)))) (br (x_2.1 == 43) (idx (.int .i64) x_2.2.2.2.2.2 0 fun e1=>cl (G.eval_run_unary r_0 x_2.2.1 e1 e_3) eval_run_unary.g.o fun r2=>ok r2) (bd (α:=Bool) (br (x_2.1 == 44) (ok ((x_2.1 == 44))) (ok ((x_2.1 == 45)))) fun x3=>br x3 (cl (G.eval_run_step r_0 x_2 e_3) eval_run_step.g.o fun r4=>ok r4) (br (x_2.1 == 46) (cl (G.eval_run_binary r_0 x_2 e_3) eval_run_binary.g.o fun r5=>ok r5) (br (x_2.1 == 47) (cl (G.eval_run_logic r_0 x_2 e_3) eval_run_logic.g.o fun r6=>ok r6) (br (x_2.1 == 48) (idx (.int .i64) x_2.2.2.2.2.2 0 fun e7=>cl (G.eval_run_expression r_0 e7 e_3) eval_run_expression.g.o fun r8=>br (!(r8.1.2 == 0)) (ok r8) (bd (R.fp r8.1.1) fun r9=>br r9 (idx (.int .i64) x_2.2.2.2.2.2 1 fun e10=>cl (G.eval_run_expression r8.2 e10 e_3) eval_run_expression.g.o fun r11=>ok r11) (idx (.int .i64) x_2.2.2.2.2.2 2 fun e12=>cl (G.eval_run_expression r8.2 e12 e_3) eval_run_expression.g.o fun r13=>ok r13))) (br (x_2.1 == 49) (cl (G.eval_run_assign r_0 x_2 e_3) eval_run_assign.g.o fun r14=>ok r14) (br (x_2.1 == 50) (cl (G.eval_run_callee r_0 x_2.2.2.2.2.2 e_3) eval_run_callee.g.o fun r15=>ok r15) (br (x_2.1 == 51) (idx (.int .i64) x_2.2.2.2.2.2 0 fun e16=>cl (G.eval_run_expression r_0 e16 e_3) eval_run_expression.g.o fun r17=>br (!(r17.1.2 == 0)) (ok r17) (ai (ile 0 1 && ile 1 x_2.2.2.2.2.2.length) (cl (G.eval_run_arguments r17.2 (List.drop (Int.toNat 1) x_2.2.2.2.2.2) e_3) eval_run_arguments.g.o fun r18=>br (!(r18.1.2.2 == 0)) (ok ((r18.1.2,r18.2))) (cl (G.eval_run_fresh r18.2 r17.1.1 r18.1.1) eval_run_fresh.g.o fun r19=>ok r19)))) (cl (G.eval_run_property r_0 n_1 e_3) eval_run_property.g.o fun r20=>ok r20)))))))))
def R.eval_run_unary (G:au) (r_0:aG.den) (op_1:(List UInt8)) (n_2:Int) (e_3:aO.den):Res ((aC.den×Int)×aG.den) :=
 given (eval_run_unary.g.i (r_0,(op_1,(n_2,e_3)))) (br (!(op_1 == [116,121,112,101,111,102])) (cl (G.eval_run_expression r_0 n_2 e_3) eval_run_expression.g.o fun r1=>br (!(r1.1.2 == 0)) (ok r1) (cl (R.jT op_1 r1.1.1) jT.g.o fun r2=>cl (R.bX r1.2 r2.1 r2.2) bX.g.o fun r3=>ok r3)) (bd (α:=((Int×(aG.den×aC.den)) ⊕ (Int×(aG.den×aC.den)))) (idx aF r_0.1 n_2 fun e4=>br (e4.1 == 33) (cl (R.bj r_0) bj.g.o fun r5=>br (!r5.1) (ok (.inr (5,(r5.2,zV)))) (cl (R.dF r5.2 e4.2.1 e_3 true) dF.g.o fun r6=>ok (.inl (r6.1.2,((r6.2.1,(r6.2.2.1,(r6.2.2.2.1,(r6.2.2.2.2.1,(r6.2.2.2.2.2.1,(w6 (r6.2.2.2.2.2.2.1-1),r6.2.2.2.2.2.2.2)))))),r6.1.1))))) (cl (G.eval_run_expression r_0 n_2 e_3) eval_run_expression.g.o fun r7=>ok (.inl (r7.1.2,(r7.2,r7.1.1))))) fun how8=>sum how8 (fun how9=>br (!(how9.1 == 0)) (ok (((how9.2.2,how9.1),how9.2.1))) (cl (R.ey how9.2.1 how9.2.2) ey.g.o fun r11=>cl (R.aj r11) aj.g.o fun r12=>cl (R.b9 r12) b9.g.o fun r13=>ok (((r13,0),how9.2.1)))) (fun z10=>ok (((z10.2.2,z10.1),z10.2.1)))))
def R.eval_run_step (G:au) (r_0:aG.den) (x_1:aF.den) (e_2:aO.den):Res ((aC.den×Int)×aG.den) :=
 given (eval_run_step.g.i (r_0,(x_1,e_2))) (idx (.int .i64) x_1.2.2.2.2.2 0 fun e1=>cl (G.eval_run_parts r_0 e1 e_2) eval_run_parts.g.o fun r2=>br (!(r2.1.2.2 == 0)) (ok ((r2.1.2,r2.2))) (cl (R.dd r2.2 r2.1.1 e_2) dd.g.o fun r3=>br (!(r3.1.2 == 0)) (ok r3) (cl (R.cC r3.1.1) cC.g.o fun r4=>br (!(r4.2 == 0)) (cl (R.aE r3.2 r4.2) aE.g.o fun r5=>ok r5) (bd (α:=Int) (br (x_1.2.1 == [45,45]) (ok ((-1))) (ok 1)) fun by6=>cl (R.kR r4.1 by6) kR.g.o fun r7=>br (!(r7.2 == 0)) (cl (R.aE r3.2 r7.2) aE.g.o fun r8=>ok r8) (cl (R.eR r3.2 r2.1.1 r7.1 e_2) eR.g.o fun r9=>br (!(r9.1.2 == 0)) (ok r9) (br (x_1.1 == 44) (ok (((r7.1,0),r9.2))) (ok (((r4.1,0),r9.2)))))))))
def R.eval_run_binary (G:au) (r_0:aG.den) (x_1:aF.den) (e_2:aO.den):Res ((aC.den×Int)×aG.den) :=
 given (eval_run_binary.g.i (r_0,(x_1,e_2))) (idx (.int .i64) x_1.2.2.2.2.2 0 fun e1=>cl (G.eval_run_expression r_0 e1 e_2) eval_run_expression.g.o fun r2=>br (!(r2.1.2 == 0)) (ok r2) (idx (.int .i64) x_1.2.2.2.2.2 1 fun e3=>cl (G.eval_run_expression r2.2 e3 e_2) eval_run_expression.g.o fun r4=>br (!(r4.1.2 == 0)) (ok r4) (br (x_1.2.1 == [105,110]) (cl (R.gO r4.2 r2.1.1 r4.1.1) gO.g.o fun r5=>ok r5) (cl (R.gT x_1.2.1 r2.1.1 r4.1.1) gT.g.o fun r6=>cl (R.bX r4.2 r6.1 r6.2) bX.g.o fun r7=>ok r7))))
def R.eval_run_logic (G:au) (r_0:aG.den) (x_1:aF.den) (e_2:aO.den):Res ((aC.den×Int)×aG.den) :=
 given (eval_run_logic.g.i (r_0,(x_1,e_2))) (idx (.int .i64) x_1.2.2.2.2.2 0 fun e1=>cl (G.eval_run_expression r_0 e1 e_2) eval_run_expression.g.o fun r2=>br (!(r2.1.2 == 0)) (ok r2) (bd (α:=Bool) (br (x_1.2.1 == [38,38]) (bd (R.fp r2.1.1) fun r3=>ok ((!r3))) (br (x_1.2.1 == [124,124]) (bd (R.fp r2.1.1) fun r4=>ok r4) (br (!(r2.1.1.1 == 0)) (ok ((!(r2.1.1.1 == 1)))) (ok false)))) fun enough5=>br enough5 (ok (((r2.1.1,0),r2.2))) (idx (.int .i64) x_1.2.2.2.2.2 1 fun e6=>cl (G.eval_run_expression r2.2 e6 e_2) eval_run_expression.g.o fun r7=>ok r7)))
def R.eval_run_assign (G:au) (r_0:aG.den) (x_1:aF.den) (e_2:aO.den):Res ((aC.den×Int)×aG.den) :=
 given (eval_run_assign.g.i (r_0,(x_1,e_2))) (idx (.int .i64) x_1.2.2.2.2.2 0 fun e1=>cl (G.eval_run_parts r_0 e1 e_2) eval_run_parts.g.o fun r2=>br (!(r2.1.2.2 == 0)) (ok ((r2.1.2,r2.2))) (ai (ile 0 (w6 ((x_1.2.1.length:Int)-1)) && ile (w6 ((x_1.2.1.length:Int)-1)) x_1.2.1.length) (bd (α:=((aG.den×aC.den) ⊕ (Int×(aG.den×aC.den)))) (br (!((List.take (Int.toNat (w6 ((x_1.2.1.length:Int)-1))) x_1.2.1) == ([]:List UInt8))) (cl (R.dd r2.2 r2.1.1 e_2) dd.g.o fun r3=>br (!(r3.1.2 == 0)) (ok (.inr (r3.1.2,(r3.2,r3.1.1)))) (ok (.inl (r3.2,r3.1.1)))) (ok (.inl (r2.2,zV)))) fun x4=>sum x4 (fun x5=>idx (.int .i64) x_1.2.2.2.2.2 1 fun e7=>cl (G.eval_run_expression x5.1 e7 e_2) eval_run_expression.g.o fun r8=>br (!(r8.1.2 == 0)) (ok r8) (bd (α:=(aC.den ⊕ (Int×(aG.den×aC.den)))) (br (!((List.take (Int.toNat (w6 ((x_1.2.1.length:Int)-1))) x_1.2.1) == ([]:List UInt8))) (cl (R.gT (List.take (Int.toNat (w6 ((x_1.2.1.length:Int)-1))) x_1.2.1) x5.2 r8.1.1) gT.g.o fun r9=>br (!(r9.2 == 0)) (cl (R.aE r8.2 r9.2) aE.g.o fun r10=>ok (.inr (r10.1.2,(r10.2,r10.1.1)))) (ok (.inl r9.1))) (ok (.inl r8.1.1))) fun x11=>sum x11 (fun x12=>cl (R.eR r8.2 r2.1.1 x12 e_2) eR.g.o fun r14=>br (!(r14.1.2 == 0)) (ok r14) (ok (((x12,0),r14.2)))) (fun z13=>ok (((z13.2.2,z13.1),z13.2.1))))) (fun z6=>ok (((z6.2.2,z6.1),z6.2.1))))))
def R.eval_run_callee (G:au) (r_0:aG.den) (k_1:(List Int)) (e_2:aO.den):Res ((aC.den×Int)×aG.den) :=
 given (eval_run_callee.g.i (r_0,(k_1,e_2))) (idx (.int .i64) k_1 0 fun e1=>cl (G.eval_run_called r_0 e1 e_2) eval_run_called.g.o fun r2=>br (!(r2.1.2.2 == 0)) (ok (((r2.1.1,r2.1.2.2),r2.2))) (ai (ile 0 1 && ile 1 k_1.length) (cl (G.eval_run_arguments r2.2 (List.drop (Int.toNat 1) k_1) e_2) eval_run_arguments.g.o fun r3=>br (!(r3.1.2.2 == 0)) (ok ((r3.1.2,r3.2))) (cl (G.eval_run_call r3.2 r2.1.1 r2.1.2.1 r3.1.1) eval_run_call.g.o fun r4=>ok r4))))
def R.eval_run_arguments (G:au) (r_0:aG.den) (k_1:(List Int)) (e_2:aO.den):Res (((List aC.den)×(aC.den×Int))×aG.den) :=
 given (eval_run_arguments.g.i (r_0,(k_1,e_2))) (bd (loop (α:=((List aC.den)×(Int×aG.den))) (β:=(((List aC.den)×aG.den) ⊕ ((List aC.den)×(Int×(aG.den×aC.den))))) (fun l1=>br (ilt l1.2.1 (k_1.length:Int)) (idx (.int .i64) k_1 l1.2.1 fun e2=>cl (G.eval_run_expression l1.2.2 e2 e_2) eval_run_expression.g.o fun r3=>br (!(r3.1.2 == 0)) (ok (.done (.inr (([]:List aC.den),(r3.1.2,(r3.2,r3.1.1)))))) (ai (decide ((l1.1.length+[r3.1.1].length)*88<=2^47)) (ok (.next (((l1.1++[r3.1.1]),(w6 (l1.2.1+1),r3.2))))))) (ok (.done (.inl (l1.1,l1.2.2))))) fuel (([]:List aC.den),(0,r_0))) fun l4=>sum l4 (fun l5=>ok (((l5.1,(zV,0)),l5.2))) (fun z6=>ok (((z6.1,(z6.2.2.2,z6.2.1)),z6.2.2.1))))
def R.eval_run_fresh (G:au) (r_0:aG.den) (f_1:aC.den) (l_2:(List aC.den)):Res ((aC.den×Int)×aG.den) :=
 given (eval_run_fresh.g.i (r_0,(f_1,l_2))) (br (!(f_1.1 == 6)) (cl (R.aE r_0 1) aE.g.o fun r1=>ok r1) (cl (R.aY r_0.2.2.2.2.1 f_1.2.2.2.2) aY.g.o fun r2=>br (!r2.2) (cl (R.gJ f_1.2.2.2.2) gJ.g.o fun r3=>cl (G.eval_run_builds r_0 r3 l_2) eval_run_builds.g.o fun r4=>ok r4) (bd (α:=Bool) (br (!(r2.1.1 == 3)) (ok true) (ok ((!(r2.1.2.2.2.2.2.2.2.2.1 == 0))))) fun x5=>br x5 (cl (R.aE r_0 1) aE.g.o fun r6=>ok r6) (bd (α:=(Int ⊕ (Int×(aG.den×aC.den)))) (cl (R.aj [112,114,111,116,111,116,121,112,101]) aj.g.o fun r7=>cl (R.cA r_0.2.2.2.2.1 f_1.2.2.2.2 r7) cA.g.o fun r8=>br (r8.1.1 == 6) (cl (R.aw r_0.2.2.2.2.1 r8.1.2.2.2.2) aw.g.o fun r9=>br (!(r9 == 1)) (cl (R.aK r_0) aK.g.o fun r10=>ok (.inr (r10.1.2,(r10.2,r10.1.1)))) (ok (.inl r8.1.2.2.2.2))) (ok (.inl (-1)))) fun proto11=>sum proto11 (fun proto12=>cl (R.aT r_0 (1,(proto12,(([]:List bQ.den),(([]:List bJ.den),(([]:List UInt8),(0,(0,(zV,(0,(0,(0,(0,([]:List Int)))))))))))))) aT.g.o fun r14=>br (!(r14.1.2 == 0)) (ok r14) (cl (G.eval_run_apply r14.2 f_1.2.2.2.2 r14.1.1 l_2) eval_run_apply.g.o fun r15=>bd (α:=Bool) (br (!(r15.1.2 == 0)) (ok true) (ok ((r15.1.1.1 == 6)))) fun x16=>br x16 (ok r15) (ok (((r14.1.1,0),r15.2))))) (fun z13=>ok (((z13.2.2,z13.1),z13.2.1)))))))
def R.eval_run_property (G:au) (r_0:aG.den) (n_1:Int) (e_2:aO.den):Res ((aC.den×Int)×aG.den) :=
 given (eval_run_property.g.i (r_0,(n_1,e_2))) (cl (G.eval_run_parts r_0 n_1 e_2) eval_run_parts.g.o fun r1=>br (!(r1.1.2.2 == 0)) (ok ((r1.1.2,r1.2))) (cl (R.dP r1.2 r1.1.1) dP.g.o fun r2=>ok r2))
def R.eval_run_parts (G:au) (r_0:aG.den) (n_1:Int) (e_2:aO.den):Res ((fi.den×(aC.den×Int))×aG.den) :=
 given (eval_run_parts.g.i (r_0,(n_1,e_2))) (idx aF r_0.1 n_1 fun e1=>br (e1.1 == 33) (ok ((((e1.2.1,(zV,zV)),(zV,0)),r_0))) (idx (.int .i64) e1.2.2.2.2.2 0 fun e2=>cl (G.eval_run_expression r_0 e2 e_2) eval_run_expression.g.o fun r3=>br (!(r3.1.2 == 0)) (ok ((((([]:List UInt8),(zV,zV)),r3.1),r3.2))) (br (e1.1 == 52) (cl (R.aj e1.2.1) aj.g.o fun r4=>cl (R.b9 r4) b9.g.o fun r5=>ok ((((([]:List UInt8),(r3.1.1,r5)),(zV,0)),r3.2))) (idx (.int .i64) e1.2.2.2.2.2 1 fun e6=>cl (G.eval_run_expression r3.2 e6 e_2) eval_run_expression.g.o fun r7=>br (!(r7.1.2 == 0)) (ok ((((([]:List UInt8),(zV,zV)),r7.1),r7.2))) (ok ((((([]:List UInt8),(r3.1.1,r7.1.1)),(zV,0)),r7.2)))))))
def R.eval_run_called (G:au) (r_0:aG.den) (n_1:Int) (e_2:aO.den):Res ((aC.den×(aC.den×Int))×aG.den) :=
 given (eval_run_called.g.i (r_0,(n_1,e_2))) (idx aF r_0.1 n_1 fun e1=>bd (α:=Bool) (br (!(e1.1 == 52)) (ok ((!(e1.1 == 53)))) (ok false)) fun x2=>br x2 (cl (G.eval_run_expression r_0 n_1 e_2) eval_run_expression.g.o fun r3=>ok (((r3.1.1,(zV,r3.1.2)),r3.2))) (cl (R.bj r_0) bj.g.o fun r4=>br (!r4.1) (ok (((zV,(zV,5)),r4.2))) (cl (G.eval_run_parts r4.2 n_1 e_2) eval_run_parts.g.o fun r5=>bd (α:=(Int×(aG.den×aC.den))) (br (r5.1.2.2 == 0) (cl (R.dP r5.2 r5.1.1) dP.g.o fun r6=>ok ((r6.1.2,(r6.2,r6.1.1)))) (ok ((r5.1.2.2,(r5.2,r5.1.2.1))))) fun how7=>ok (((how7.2.2,(r5.1.1.2.1,how7.1)),(how7.2.1.1,(how7.2.1.2.1,(how7.2.1.2.2.1,(how7.2.1.2.2.2.1,(how7.2.1.2.2.2.2.1,(w6 (how7.2.1.2.2.2.2.2.1-1),how7.2.1.2.2.2.2.2.2)))))))))))
def R.eval_run_call (G:au) (r_0:aG.den) (f_1:aC.den) (this_2:aC.den) (l_3:(List aC.den)):Res ((aC.den×Int)×aG.den) :=
 given (eval_run_call.g.i (r_0,(f_1,(this_2,l_3)))) (br (!(f_1.1 == 6)) (cl (R.aE r_0 1) aE.g.o fun r1=>ok r1) (cl (R.gJ f_1.2.2.2.2) gJ.g.o fun r2=>bd (R.iA r2) fun r3=>br r3 (cl (G.eval_run_does r_0 r2 this_2 l_3) eval_run_does.g.o fun r4=>ok r4) (cl (R.aw r_0.2.2.2.2.1 f_1.2.2.2.2) aw.g.o fun r5=>br (!(r5 == 3)) (cl (R.aE r_0 1) aE.g.o fun r6=>ok r6) (cl (G.eval_run_apply r_0 f_1.2.2.2.2 this_2 l_3) eval_run_apply.g.o fun r7=>ok r7))))
def R.eval_run_builds (G:au) (r_0:aG.den) (s_1:(List UInt8)) (l_2:(List aC.den)):Res ((aC.den×Int)×aG.den) :=
 given (eval_run_builds.g.i (r_0,(s_1,l_2))) (bd (α:=Bool) (br (s_1 == [79,98,106,101,99,116]) (ok ((s_1 == [79,98,106,101,99,116]))) (br (s_1 == [65,114,114,97,121]) (ok ((s_1 == [65,114,114,97,121]))) (br (s_1 == [78,117,109,98,101,114]) (ok ((s_1 == [78,117,109,98,101,114]))) (br (s_1 == [83,116,114,105,110,103]) (ok ((s_1 == [83,116,114,105,110,103]))) (ok ((s_1 == [66,111,111,108,101,97,110]))))))) fun x1=>br x1 (cl (R.aK r_0) aK.g.o fun r2=>ok r2) (bd (α:=Bool) (br (s_1 == [69,114,114,111,114]) (ok ((s_1 == [69,114,114,111,114]))) (br (s_1 == [84,121,112,101,69,114,114,111,114]) (ok ((s_1 == [84,121,112,101,69,114,114,111,114]))) (br (s_1 == [82,97,110,103,101,69,114,114,111,114]) (ok ((s_1 == [82,97,110,103,101,69,114,114,111,114]))) (br (s_1 == [82,101,102,101,114,101,110,99,101,69,114,114,111,114]) (ok ((s_1 == [82,101,102,101,114,101,110,99,101,69,114,114,111,114]))) (ok ((s_1 == [83,121,110,116,97,120,69,114,114,111,114]))))))) fun x3=>br x3 (cl (G.eval_run_does r_0 s_1 zV l_2) eval_run_does.g.o fun r4=>ok r4) (br (s_1 == [65,114,114,97,121,66,117,102,102,101,114]) (cl (R.bY l_2 0) bY.g.o fun r5=>cl (R.cU r5) cU.g.o fun r6=>br (!(r6.2 == 0)) (cl (R.aE r_0 r6.2) aE.g.o fun r7=>ok r7) (br (ilt 4096 r6.1) (cl (R.aE r_0 2) aE.g.o fun r8=>ok r8) (ai (ile 0 r6.1 && (ile r6.1 r6.1 && decide ((Int.toNat r6.1)*1<=2^47))) (cl (R.aT r_0 (5,(0,(([]:List bQ.den),(([]:List bJ.den),(([]:List UInt8),(0,(0,(zV,(0,(0,(0,(0,(List.replicate (Int.toNat r6.1) (0:Int))))))))))))))) aT.g.o fun r9=>ok r9)))) (br (s_1 == [83,104,97,114,101,100,65,114,114,97,121,66,117,102,102,101,114]) (cl (R.dA r_0 l_2) dA.g.o fun r10=>ok r10) (br (s_1 == [68,97,116,97,86,105,101,119]) (cl (R.c7 r_0 l_2) c7.g.o fun r11=>ok r11) (cl (R.jP s_1) jP.g.o fun r12=>br (ilt 0 r12) (cl (R.dU r_0 r12 l_2) dU.g.o fun r13=>ok r13) (cl (R.aE r_0 1) aE.g.o fun r14=>ok r14)))))))
def R.eval_run_apply (G:au) (r_0:aG.den) (ref_1:Int) (this_2:aC.den) (l_3:(List aC.den)):Res ((aC.den×Int)×aG.den) :=
 given (eval_run_apply.g.i (r_0,(ref_1,(this_2,l_3)))) (cl (R.aY r_0.2.2.2.2.1 ref_1) aY.g.o fun r1=>cl (R.bS r_0 r1.1.2.2.2.2.2.2.1) bS.g.o fun r2=>br (!(r2.1.2 == 0)) (ok (((zV,r2.1.2),r2.2))) (bd (α:=aO.den) (br (r1.1.2.2.2.2.2.2.2.2.1 == 1) (ok ((r2.1.1,(r1.1.2.2.2.2.2.2.2.1,true)))) (br (r1.1.2.2.2.2.2.2.2.2.1 == 2) (ok ((r2.1.1,(zV,false)))) (ok ((r2.1.1,(this_2,true)))))) fun x3=>idx aF r2.2.1 r1.1.2.2.2.2.2.1 fun e4=>ai (ile 0 (w6 ((e4.2.2.2.2.2.length:Int)-1)) && ile (w6 ((e4.2.2.2.2.2.length:Int)-1)) e4.2.2.2.2.2.length) (bd (loop (α:=(Int×eW.den)) (β:=eW.den) (fun x5=>br (ilt x5.1 ((List.take (Int.toNat (w6 ((e4.2.2.2.2.2.length:Int)-1))) e4.2.2.2.2.2).length:Int)) (idx (.int .i64) (List.take (Int.toNat (w6 ((e4.2.2.2.2.2.length:Int)-1))) e4.2.2.2.2.2) x5.1 fun e6=>idx aF r2.2.1 e6 fun e7=>cl (R.bY l_3 x5.1) bY.g.o fun r8=>cl (R.bA x5.2 r2.1.1 e7.2.1 r8 true false) bA.g.o fun r9=>ok (.next ((w6 (x5.1+1),r9.2)))) (ok (.done (x5.2)))) fuel (0,r2.2.2.2.2.2.1)) fun x10=>idx (.int .i64) e4.2.2.2.2.2 (w6 ((e4.2.2.2.2.2.length:Int)-1)) fun e11=>idx aF r2.2.1 e11 fun e12=>br (!(e12.1 == 4)) (cl (G.eval_run_expression (r2.2.1,(r2.2.2.1,(r2.2.2.2.1,(r2.2.2.2.2.1,(x10,r2.2.2.2.2.2.2))))) e11 x3) eval_run_expression.g.o fun r13=>ok r13) (cl (R.bx (r2.2.1,(r2.2.2.1,(r2.2.2.2.1,(r2.2.2.2.2.1,(x10,r2.2.2.2.2.2.2))))) e11 x3) bx.g.o fun r14=>br (!(r14.1.2 == 0)) (ok r14) (idx aF r14.2.1 e11 fun e15=>cl (G.eval_run_list r14.2 e15.2.2.2.2.2 x3) eval_run_list.g.o fun r16=>br (r16.1.1 == 3) (ok (((r16.1.2.2,0),r16.2))) (bd (α:=Bool) (br (r16.1.1 == 4) (ok ((r16.1.1 == 4))) (ok ((r16.1.1 == 5)))) fun x17=>br x17 (ok (((r16.1.2.2,r16.1.1),r16.2))) (ok (((zV,0),r16.2)))))))))
def R.eval_run_does (G:au) (r_0:aG.den) (s_1:(List UInt8)) (this_2:aC.den) (l_3:(List aC.den)):Res ((aC.den×Int)×aG.den) :=
 given (eval_run_does.g.i (r_0,(s_1,(this_2,l_3)))) (cl (R.bY l_3 0) bY.g.o fun r1=>bd (α:=Bool) (br (s_1 == [79,98,106,101,99,116]) (ok ((s_1 == [79,98,106,101,99,116]))) (ok ((s_1 == [65,114,114,97,121])))) fun x2=>br x2 (cl (R.aK r_0) aK.g.o fun r3=>ok r3) (br (s_1 == [79,98,106,101,99,116,46,107,101,121,115]) (cl (R.ep r_0 r1) ep.g.o fun r4=>ok r4) (br (s_1 == [79,98,106,101,99,116,46,99,114,101,97,116,101]) (cl (R.bY l_3 1) bY.g.o fun r5=>cl (R.dZ r_0 r1 r5) dZ.g.o fun r6=>ok r6) (br (s_1 == [65,114,114,97,121,46,105,115,65,114,114,97,121]) (br (r1.1 == 6) (cl (R.aw r_0.2.2.2.2.1 r1.2.2.2.2) aw.g.o fun r7=>cl (R.bF (r7 == 2)) bF.g.o fun r8=>ok (((r8,0),r_0))) (cl (R.bF false) bF.g.o fun r9=>ok (((r9,0),r_0)))) (br (s_1 == [65,114,114,97,121,35,112,117,115,104]) (cl (R.ev r_0 this_2 l_3) ev.g.o fun r10=>ok r10) (br (s_1 == [65,114,114,97,121,35,112,111,112]) (bd (α:=Bool) (br (!(this_2.1 == 6)) (ok true) (cl (R.aw r_0.2.2.2.2.1 this_2.2.2.2.2) aw.g.o fun r11=>ok ((!(r11 == 2))))) fun x12=>br x12 (cl (R.aK r_0) aK.g.o fun r13=>ok r13) (cl (R.eE r_0.2.2.2.2.1 this_2.2.2.2.2) eE.g.o fun r14=>ok (((r14.1.1,0),(r_0.1,(r_0.2.1,(r_0.2.2.1,(r_0.2.2.2.1,(r14.2,r_0.2.2.2.2.2))))))))) (br (s_1 == [78,117,109,98,101,114]) (cl (R.cr r_0 r1 (l_3.length:Int)) cr.g.o fun r15=>ok r15) (br (s_1 == [83,116,114,105,110,103]) (br ((l_3.length:Int) == 0) (cl (R.b9 ([]:List Int)) b9.g.o fun r16=>ok (((r16,0),r_0))) (cl (R.cx r1) cx.g.o fun r17=>cl (R.b9 r17.1) b9.g.o fun r18=>cl (R.bX r_0 r18 r17.2) bX.g.o fun r19=>ok r19)) (br (s_1 == [66,111,111,108,101,97,110]) (bd (R.fp r1) fun r20=>cl (R.bF r20) bF.g.o fun r21=>ok (((r21,0),r_0))) (br (s_1 == [66,105,103,73,110,116]) (cl (R.dX r_0 r1) dX.g.o fun r22=>ok r22) (bd (α:=Bool) (br (s_1 == [69,114,114,111,114]) (ok ((s_1 == [69,114,114,111,114]))) (br (s_1 == [84,121,112,101,69,114,114,111,114]) (ok ((s_1 == [84,121,112,101,69,114,114,111,114]))) (br (s_1 == [82,97,110,103,101,69,114,114,111,114]) (ok ((s_1 == [82,97,110,103,101,69,114,114,111,114]))) (br (s_1 == [82,101,102,101,114,101,110,99,101,69,114,114,111,114]) (ok ((s_1 == [82,101,102,101,114,101,110,99,101,69,114,114,111,114]))) (ok ((s_1 == [83,121,110,116,97,120,69,114,114,111,114]))))))) fun x23=>br x23 (cl (R.dB r_0 s_1 r1) dB.g.o fun r24=>ok r24) (bd (R.cO s_1 [68,97,116,97,86,105,101,119,35]) fun r25=>br r25 (cl (R.bw s_1 [68,97,116,97,86,105,101,119,35]) bw.g.o fun r26=>cl (R.dV r_0 r26 this_2 l_3) dV.g.o fun r27=>ok r27) (bd (R.cO s_1 [65,116,111,109,105,99,115,46]) fun r28=>br r28 (cl (R.bw s_1 [65,116,111,109,105,99,115,46]) bw.g.o fun r29=>cl (R.dS r_0 r29 l_3) dS.g.o fun r30=>ok r30) (bd (R.cO s_1 [36,50,54,50,46,97,103,101,110,116,46]) fun r31=>br r31 (cl (R.bw s_1 [36,50,54,50,46,97,103,101,110,116,46]) bw.g.o fun r32=>cl (G.eval_run_host r_0 r32 r1) eval_run_host.g.o fun r33=>ok r33) (cl (R.aE r_0 1) aE.g.o fun r34=>ok r34)))))))))))))))
def R.eval_run_host (G:au) (r_0:aG.den) (s_1:(List UInt8)) (x_2:aC.den):Res ((aC.den×Int)×aG.den) :=
 given (eval_run_host.g.i (r_0,(s_1,x_2))) (bd (α:=(fB.den ⊕ (Int×(aG.den×aC.den)))) (br (s_1 == [115,116,97,114,116]) (br (!(x_2.1 == 5)) (cl (R.aK r_0) aK.g.o fun r1=>ok (.inr (r1.1.2,(r1.2,r1.1.1)))) (ok (.inl (8,(0,(0,(0,(0,(false,(false,(0,(0,((0,0),(x_2.2.2.2.1,0)))))))))))))) (br (s_1 == [98,114,111,97,100,99,97,115,116]) (cl (R.aY r_0.2.2.2.2.1 x_2.2.2.2.2) aY.g.o fun r2=>bd (α:=Bool) (br (!(x_2.1 == 6)) (ok true) (ok ((!(r2.1.1 == 6))))) fun x3=>br x3 (cl (R.aE r_0 1) aE.g.o fun r4=>ok (.inr (r4.1.2,(r4.2,r4.1.1)))) (ok (.inl (9,(r2.1.2.2.2.2.2.2.2.2.2.1,(0,(0,(0,(false,(false,(0,(0,((0,0),(([]:List Int),r2.1.2.2.2.2.2.2.2.2.2.2.2.1)))))))))))))) (br (s_1 == [114,101,99,101,105,118,101,66,114,111,97,100,99,97,115,116]) (cl (G.eval_run_receives r_0 x_2) eval_run_receives.g.o fun r5=>ok (.inr (r5.1.2,(r5.2,r5.1.1)))) (br (s_1 == [114,101,112,111,114,116]) (cl (R.cx x_2) cx.g.o fun r6=>br (!(r6.2 == 0)) (cl (R.aE r_0 r6.2) aE.g.o fun r7=>ok (.inr (r7.1.2,(r7.2,r7.1.1)))) (ok (.inl (11,(0,(0,(0,(0,(false,(false,(0,(0,((0,0),(r6.1,0)))))))))))))) (br (s_1 == [103,101,116,82,101,112,111,114,116]) (ok (.inl (12,(0,(0,(0,(0,(false,(false,(0,(0,((0,0),(([]:List Int),0))))))))))))) (br (s_1 == [115,108,101,101,112]) (cl (R.bR x_2) bR.g.o fun r8=>br (!(r8.2 == 0)) (cl (R.aE r_0 r8.2) aE.g.o fun r9=>ok (.inr (r9.1.2,(r9.2,r9.1.1)))) (cl (R.eQ r8.1) eQ.g.o fun r10=>ok (.inl (13,(0,(0,(0,(0,(false,(false,(0,(0,(r10,(([]:List Int),0)))))))))))))) (ok (.inl (14,(0,(0,(0,(0,(false,(false,(0,(0,((0,0),(([]:List Int),0))))))))))))))))))) fun x11=>sum x11 (fun x12=>cl (R.bP r_0 x12) bP.g.o fun r14=>br (!(r14.1.2 == 0)) (ok (((zV,r14.1.2),r14.2))) (br (x12.1 == 14) (cl (R.bc (w6 (gD .and .u64 r14.1.1.1 9007199254740991))) bc.g.o fun r15=>ok (((r15,0),r14.2))) (bd (α:=Bool) (br (x12.1 == 12) (ok ((!(r14.1.1.2.1 == 0)))) (ok false)) fun x16=>br x16 (ok ((((1,((0,0),((false,([]:List Int)),(([]:List Int),0)))),0),r14.2))) (br (x12.1 == 12) (cl (R.b9 r14.1.1.2.2.2.2) b9.g.o fun r17=>ok (((r17,0),r14.2))) (ok (((zV,0),r14.2))))))) (fun z13=>ok (((z13.2.2,z13.1),z13.2.1))))
def R.eval_run_receives (G:au) (r_0:aG.den) (f_1:aC.den):Res ((aC.den×Int)×aG.den) :=
 given (eval_run_receives.g.i (r_0,f_1)) (bd (α:=Bool) (br (!(f_1.1 == 6)) (ok true) (cl (R.aw r_0.2.2.2.2.1 f_1.2.2.2.2) aw.g.o fun r1=>ok ((!(r1 == 3))))) fun x2=>br x2 (cl (R.aE r_0 1) aE.g.o fun r3=>ok r3) (cl (R.bP r_0 (10,(0,(0,(0,(0,(false,(false,(0,(0,((0,0),(([]:List Int),0)))))))))))) bP.g.o fun r4=>br (!(r4.1.2 == 0)) (ok (((zV,r4.1.2),r4.2))) (bd (α:=Int) (bd (α:=Bool) (br (ilt r4.1.1.2.2.2.1 0) (ok true) (ok ((ilt 9007199254740991 r4.1.1.2.2.2.1)))) fun x5=>br x5 (ok 0) (ok (r4.1.1.2.2.2.1))) fun n6=>cl (R.aT r4.2 (6,(0,(([]:List bQ.den),(([]:List bJ.den),(([]:List UInt8),(0,(0,(zV,(0,(r4.1.1.2.2.1,(0,(n6,([]:List Int)))))))))))))) aT.g.o fun r7=>br (!(r7.1.2 == 0)) (ok r7) (cl (G.eval_run_call r7.2 f_1 zV [r7.1.1]) eval_run_call.g.o fun r8=>br (!(r8.1.2 == 0)) (ok r8) (ok (((zV,0),r8.2)))))))
def cI:Nat->au
 |0=>{ eval_run_list:=fun _ _ _=>.stuck,eval_run_statement:=fun _ _ _ _=>.stuck,eval_run_act:=fun _ _ _ _=>.stuck,eval_run_expression:=fun _ _ _=>.stuck,eval_run_block:=fun _ _ _=>.stuck,eval_run_decls:=fun _ _ _=>.stuck,eval_run_choice:=fun _ _ _=>.stuck,eval_run_while:=fun _ _ _ _=>.stuck,eval_run_loop:=fun _ _ _ _=>.stuck,eval_run_try:=fun _ _ _=>.stuck,eval_run_value:=fun _ _ _=>.stuck,eval_run_asked:=fun _ _ _=>.stuck,eval_run_first:=fun _ _ _=>.stuck,eval_run_catch:=fun _ _ _ _ _=>.stuck,eval_run_array:=fun _ _ _=>.stuck,eval_run_object:=fun _ _ _=>.stuck,eval_run_operation:=fun _ _ _ _=>.stuck,eval_run_unary:=fun _ _ _ _=>.stuck,eval_run_step:=fun _ _ _=>.stuck,eval_run_binary:=fun _ _ _=>.stuck,eval_run_logic:=fun _ _ _=>.stuck,eval_run_assign:=fun _ _ _=>.stuck,eval_run_callee:=fun _ _ _=>.stuck,eval_run_arguments:=fun _ _ _=>.stuck,eval_run_fresh:=fun _ _ _=>.stuck,eval_run_property:=fun _ _ _=>.stuck,eval_run_parts:=fun _ _ _=>.stuck,eval_run_called:=fun _ _ _=>.stuck,eval_run_call:=fun _ _ _ _=>.stuck,eval_run_builds:=fun _ _ _=>.stuck,eval_run_apply:=fun _ _ _ _=>.stuck,eval_run_does:=fun _ _ _ _=>.stuck,eval_run_host:=fun _ _ _=>.stuck,eval_run_receives:=fun _ _=>.stuck }
 |n+1=>{ eval_run_list:=R.eval_run_list (cI n),eval_run_statement:=R.eval_run_statement (cI n),eval_run_act:=R.eval_run_act (cI n),eval_run_expression:=R.eval_run_expression (cI n),eval_run_block:=R.eval_run_block (cI n),eval_run_decls:=R.eval_run_decls (cI n),eval_run_choice:=R.eval_run_choice (cI n),eval_run_while:=R.eval_run_while (cI n),eval_run_loop:=R.eval_run_loop (cI n),eval_run_try:=R.eval_run_try (cI n),eval_run_value:=R.eval_run_value (cI n),eval_run_asked:=R.eval_run_asked (cI n),eval_run_first:=R.eval_run_first (cI n),eval_run_catch:=R.eval_run_catch (cI n),eval_run_array:=R.eval_run_array (cI n),eval_run_object:=R.eval_run_object (cI n),eval_run_operation:=R.eval_run_operation (cI n),eval_run_unary:=R.eval_run_unary (cI n),eval_run_step:=R.eval_run_step (cI n),eval_run_binary:=R.eval_run_binary (cI n),eval_run_logic:=R.eval_run_logic (cI n),eval_run_assign:=R.eval_run_assign (cI n),eval_run_callee:=R.eval_run_callee (cI n),eval_run_arguments:=R.eval_run_arguments (cI n),eval_run_fresh:=R.eval_run_fresh (cI n),eval_run_property:=R.eval_run_property (cI n),eval_run_parts:=R.eval_run_parts (cI n),eval_run_called:=R.eval_run_called (cI n),eval_run_call:=R.eval_run_call (cI n),eval_run_builds:=R.eval_run_builds (cI n),eval_run_apply:=R.eval_run_apply (cI n),eval_run_does:=R.eval_run_does (cI n),eval_run_host:=R.eval_run_host (cI n),eval_run_receives:=R.eval_run_receives (cI n) }
end Go.Mach
end

set_option linter.unusedVariables false
set_option maxRecDepth 20000
noncomputable section
namespace Go.Mach
open Res
abbrev dC.g:Sg:=⟨[.obj aG],[(true,(.frz aV))]⟩
def R.dC (r_0:aG.den):Res (aV.den×aG.den) :=
 given (dC.g.i r_0) (cl (R.bS r_0 (-1)) bS.g.o fun r1=>br (!(r1.1.2 == 0)) (ok (((r1.1.2,(([]:List UInt8),zV)),r1.2))) (cl (R.bx r1.2 0 (r1.1.1,(zV,false))) bx.g.o fun r2=>br (!(r2.1.2 == 0)) (ok (((r2.1.2,(([]:List UInt8),r2.1.1)),r2.2))) (idx aF r2.2.1 0 fun e3=>cl ((cI fuel).eval_run_list r2.2 e3.2.2.2.2.2 (r1.1.1,(zV,false))) eval_run_list.g.o fun r4=>ok r4)))
abbrev dY.g:Sg:=⟨[.val false (.bor aG),.val true (.frz aC)],[(false,(.own .h))]⟩
def R.dY (r_0:((List aF.den)×(dy.den×((List fM.den)×(Int×(iB.den×(Int×(Int×(fB.den×gY.den))))))))) (v_1:aC.den):Res ((List Int)) :=
 given (dY.g.i (r_0,v_1)) (br (!(v_1.1 == 6)) (cl (R.cx v_1) cx.g.o fun r1=>ok (r1.1)) (cl (R.aY r_0.2.2.2.2.1 v_1.2.2.2.2) aY.g.o fun r2=>bd (α:=Bool) (br r2.2 (ok ((r2.1.1 == 10))) (ok false)) fun x3=>br x3 (cl (R.aj r2.1.2.2.2.2.1) aj.g.o fun r4=>ok r4) (cl (R.aj [111,98,106,101,99,116]) aj.g.o fun r5=>ok r5)))
abbrev gQ.g:Sg:=⟨[.val true (.frz (.list aF)),.val true (.frz dy),.val false (.frz (.list fM))],[(true,(.frz fB)),(true,(.frz gY))]⟩
def R.gQ (t_0:(List aF.den)) (lim_1:dy.den) (l_2:(List fM.den)):Res ((fB.den×gY.den)) :=
 given (gQ.g.i (t_0,(lim_1,l_2))) (cl (R.lG lim_1.1) lG.g.o fun r1=>cl (R.dC (t_0,(lim_1,(l_2,(0,(r1,(0,(0,((0,(0,(0,(0,(0,(false,(false,(0,(0,((0,0),(([]:List Int),0))))))))))),(0,([]:List Int))))))))))) dC.g.o fun r2=>br (r2.1.1 == 5) (ok (r2.2.2.2.2.2.2.2.2)) (br (r2.1.1 == 4) (cl (R.dY r2.2 r2.1.2.2) dY.g.o fun r3=>ok (((0,(0,(0,(0,(0,(false,(false,(0,(0,((0,0),(([]:List Int),0))))))))))),(2,r3)))) (ok (((0,(0,(0,(0,(0,(false,(false,(0,(0,((0,0),(([]:List Int),0))))))))))),(1,([]:List Int)))))))
abbrev fh.g:Sg:=⟨[.val true (.frz (.list aF)),.val true (.frz dy),.val false (.frz (.list fM))],[(true,(.frz fB)),(true,(.frz gY))]⟩
def R.fh (t_0:(List aF.den)) (lim_1:dy.den) (l_2:(List fM.den)):Res ((fB.den×gY.den)) :=
 given (fh.g.i (t_0,(lim_1,l_2))) (cl (R.gE t_0) gE.g.o fun r1=>bd (α:=Bool) (br (!(r1.2 == 0)) (ok true) (bd (R.jc lim_1) fun r2=>ok ((!r2)))) fun x3=>br x3 (ok (((0,(0,(0,(0,(0,(false,(false,(0,(0,((0,0),(([]:List Int),0))))))))))),(0,([]:List Int))))) (cl (R.gQ t_0 lim_1 l_2) gQ.g.o fun r4=>ok r4))
abbrev dx.g:Sg:=⟨[.s,.val false (.frz (.list fM))],[(true,(.frz fB)),(true,(.frz gY))]⟩
def R.dx (s_0:(List UInt8)) (l_1:(List fM.den)):Res ((fB.den×gY.den)) :=
 given (dx.g.i (s_0,l_1)) (cl (R.ic (lU s_0)) ic.g.o fun r1=>cl (R.fh r1.1 (100,(50,500)) l_1) fh.g.o fun r2=>ok r2)
abbrev ia.g:Sg:=⟨[.s],[(false,(.own .h))]⟩
def R.ia (s_0:(List UInt8)):Res ((List Int)) :=
 given (ia.g.i s_0) (bd (loop (α:=((List Int)×Int)) (β:=(List Int)) (fun out1=>br (ilt out1.2 (s_0.length:Int)) (idx (.int .u8) (lU s_0) out1.2 fun e2=>ai (decide ((out1.1.length+[IntKind.wrap .u16 e2].length)*2<=2^47)) (ok (.next (((out1.1++[IntKind.wrap .u16 e2]),w6 (out1.2+1)))))) (ok (.done (out1.1)))) fuel (([]:List Int),0)) fun out3=>ok out3)
abbrev fK.g:Sg:=⟨[.val false (.bor (.own .h)),.val false (.bor (.own .h))],[vb]⟩
def R.fK (a_0:(List Int)) (b_1:(List Int)):Res (Bool) :=
 given (fK.g.i (a_0,b_1)) (br (!((a_0.length:Int) == (b_1.length:Int))) (ok false) (bd (loop (α:=Int) (β:=(Unit ⊕ Bool)) (fun i1=>br (ilt i1 (a_0.length:Int)) (ct .h a_0 i1 fun e2=>ct .h b_1 i1 fun e3=>br (!(e2 == e3)) (ok (.done (.inr false))) (ok (.next (w6 (i1+1))))) (ok (.done (.inl ())))) fuel 0) fun x4=>sum x4 (fun x5=>ok true) (fun z6=>ok z6)))
abbrev fj.g:Sg:=⟨[.s,.i,.s],[vb]⟩
def R.fj (s_0:(List UInt8)) (kind_1:Int) (text_2:(List UInt8)):Res (Bool) :=
 given (fj.g.i (s_0,(kind_1,text_2))) (cl (R.dx s_0 ([]:List fM.den)) dx.g.o fun r1=>br (r1.1.1 == 0) (br (r1.2.1 == kind_1) (cl (R.ia text_2) ia.g.o fun r2=>bd (R.fK r1.2.2 r2) fun r3=>ok r3) (ok false)) (ok false))
abbrev eS.g:Sg:=⟨[],[vb]⟩
def R.eS :Res (Bool) :=
 given (eS.g.i ()) (cl (R.dx [65,116,111,109,105,99,115,46,108,111,97,100,40,110,101,119,32,73,110,116,51,50,65,114,114,97,121,40,110,101,119,32,83,104,97,114,101,100,65,114,114,97,121,66,117,102,102,101,114,40,56,41,41,44,32,49,41] ([]:List fM.den)) dx.g.o fun r1=>cl (R.dx [65,116,111,109,105,99,115,46,108,111,97,100,40,110,101,119,32,73,110,116,51,50,65,114,114,97,121,40,110,101,119,32,83,104,97,114,101,100,65,114,114,97,121,66,117,102,102,101,114,40,56,41,41,44,32,49,41] [(0,(0,(3,(0,([]:List Int)))))]) dx.g.o fun r2=>cl (R.dx [108,101,116,32,102,32,61,32,40,41,32,61,62,32,102,40,41,59,32,102,40,41] ([]:List fM.den)) dx.g.o fun r3=>bd (R.fj [108,101,116,32,120,32,61,32,49,59,32,120,32,61,32,120,32,43,32,49] 1 ([]:List UInt8)) fun r4=>br r4 (bd (R.fj [116,104,114,111,119,32,110,101,119,32,69,114,114,111,114,40,39,97,39,41] 2 [69,114,114,111,114]) fun r5=>br r5 (bd (R.fj [110,117,108,108,46,120] 2 [84,121,112,101,69,114,114,111,114]) fun r6=>br r6 (bd (R.fj [49,32,47,32,50] 3 ([]:List UInt8)) fun r7=>br r7 (bd (R.fj [77,97,116,104] 3 ([]:List UInt8)) fun r8=>br r8 (br (r1.1.1 == 1) (br (r1.1.2.2.2.2.2.2.2.2.2.2.2 == 8) (br (r1.2.1 == 0) (br (r2.1.1 == 2) (br (r2.1.2.1 == 3) (br (r2.1.2.2.1 == 4) (br (r2.1.2.2.2.1 == 4) (br r2.1.2.2.2.2.2.1 (br (r2.2.1 == 0) (ok ((ile 4 r3.2.1))) (ok false)) (ok false)) (ok false)) (ok false)) (ok false)) (ok false)) (ok false)) (ok false)) (ok false)) (ok false)) (ok false)) (ok false)) (ok false)) (ok false))
abbrev gI.g:Sg:=⟨[.val true (.bor lO),.i],[vi]⟩
def R.gI (t_0:(List aF.den)) (most_1:Int):Res (Int) :=
 given (gI.g.i (t_0,most_1)) (bd (loop (α:=(Int×Int)) (β:=Int) (fun n1=>bd (α:=Bool) (br (ilt n1.2 (t_0.length:Int)) (ok ((ile n1.1 most_1))) (ok false)) fun x2=>br x2 (ct (.frz aF) t_0 n1.2 fun e3=>ok (.next ((w6 ((w6 ((w6 ((w6 ((w6 (n1.1+1))+(kv (e3.2.2.1.length:Int) (w6 (most_1+1)))))+(kv (e3.2.2.2.2.1.2.length:Int) (w6 (most_1+1)))))+(kv (e3.2.2.2.2.2.length:Int) (w6 (most_1+1)))))+(kv (e3.2.1.length:Int) (w6 (most_1+1)))),w6 (n1.2+1))))) (ok (.done (n1.1)))) fuel (0,0)) fun n4=>ok n4)
abbrev iw.g:Sg:=⟨[.val true (.bor lO)],[vb]⟩
def R.iw (t_0:(List aF.den)):Res (Bool) :=
 given (iw.g.i t_0) (br (ile (t_0.length:Int) 20000) (cl (R.gI t_0 20000) gI.g.o fun r1=>ok ((ile r1 20000))) (ok false))
abbrev iL.g:Sg:=⟨[.val false (.bor (.own (.frz fM)))],[vb]⟩
def R.iL (l_0:(List fM.den)):Res (Bool) :=
 given (iL.g.i l_0) (bd (loop (α:=(Int×Int)) (β:=Int) (fun n1=>bd (α:=Bool) (br (ilt n1.2 (l_0.length:Int)) (ok ((ilt n1.2 100))) (ok false)) fun x2=>br x2 (ct (.frz fM) l_0 n1.2 fun e3=>ok (.next ((w6 (n1.1+(kv (e3.2.2.2.2.length:Int) 20001)),w6 (n1.2+1))))) (ok (.done (n1.1)))) fuel (0,0)) fun n4=>br (ile (l_0.length:Int) 100) (ok ((ile n4 20000))) (ok false))
abbrev fX.g:Sg:=⟨[.val true (.frz dy)],[vb]⟩
def R.fX (l_0:dy.den):Res (Bool) :=
 given (fX.g.i l_0) (br (ile l_0.2.2 3000) (br (ile l_0.2.1 200) (ok ((ile l_0.1 1000))) (ok false)) (ok false))
abbrev ef.g:Sg:=⟨[.val true (.frz gY)],[(true,(.frz gY))]⟩
def R.ef (e_0:gY.den):Res (gY.den) :=
 given (ef.g.i e_0) (ok e_0)
abbrev eN.g:Sg:=⟨[.val true (.bor (.seq .i (.own .h))),.val true (.bor (.seq .i (.own .h)))],[vb]⟩
def R.eN (a_0:gY.den) (b_1:gY.den):Res (Bool) :=
 given (eN.g.i (a_0,b_1)) (br (a_0.1 == b_1.1) (bd (R.fK a_0.2 b_1.2) fun r1=>ok r1) (ok false))
abbrev eo.g:Sg:=⟨[.val true (.frz fB)],[(true,(.frz fB))]⟩
def R.eo (r_0:fB.den):Res (fB.den) :=
 given (eo.g.i r_0) (ok r_0)
abbrev ji.g:Sg:=⟨[.val true (.frz aI),.val true (.frz aI)],[vb]⟩
def R.ji (a_0:aI.den) (b_1:aI.den):Res (Bool) :=
 given (ji.g.i (a_0,b_1)) (br (a_0.1 == b_1.1) (ok ((a_0.2 == b_1.2))) (ok false))
abbrev eL.g:Sg:=⟨[.val true (.bor (.seq .i (.seq .i (.seq .i (.seq .i (.seq .i (.seq .b (.seq .b (.seq (.frz (.int .u64)) (.seq (.frz (.int .u64)) (.seq (.frz aI) (.seq (.own .h) .i)))))))))))),.val true (.bor (.seq .i (.seq .i (.seq .i (.seq .i (.seq .i (.seq .b (.seq .b (.seq (.frz (.int .u64)) (.seq (.frz (.int .u64)) (.seq (.frz aI) (.seq (.own .h) .i))))))))))))],[vb]⟩
def R.eL (a_0:fB.den) (b_1:fB.den):Res (Bool) :=
 given (eL.g.i (a_0,b_1)) (br (a_0.1 == b_1.1) (br (a_0.2.1 == b_1.2.1) (br (a_0.2.2.1 == b_1.2.2.1) (br (a_0.2.2.2.1 == b_1.2.2.2.1) (br (a_0.2.2.2.2.1 == b_1.2.2.2.2.1) (br (a_0.2.2.2.2.2.1 == b_1.2.2.2.2.2.1) (br (a_0.2.2.2.2.2.2.1 == b_1.2.2.2.2.2.2.1) (br (a_0.2.2.2.2.2.2.2.1 == b_1.2.2.2.2.2.2.2.1) (br (a_0.2.2.2.2.2.2.2.2.1 == b_1.2.2.2.2.2.2.2.2.1) (bd (R.ji a_0.2.2.2.2.2.2.2.2.2.1 b_1.2.2.2.2.2.2.2.2.2.1) fun r1=>br r1 (bd (R.fK a_0.2.2.2.2.2.2.2.2.2.2.1 b_1.2.2.2.2.2.2.2.2.2.2.1) fun r2=>br r2 (ok ((a_0.2.2.2.2.2.2.2.2.2.2.2 == b_1.2.2.2.2.2.2.2.2.2.2.2))) (ok false)) (ok false)) (ok false)) (ok false)) (ok false)) (ok false)) (ok false)) (ok false)) (ok false)) (ok false)) (ok false))
abbrev ec.g:Sg:=⟨[.val true (.frz (.list aF)),.val true (.frz dy),.val true (.frz dy),.val false (.frz (.list fM))],[vb]⟩
def R.ec (t_0:(List aF.den)) (lim_1:dy.den) (more_2:dy.den) (l_3:(List fM.den)):Res (Bool) :=
 given (ec.g.i (t_0,(lim_1,(more_2,l_3)))) (bd (R.eS) fun r1=>br (!r1) (ok false) (bd (α:=Bool) (bd (R.iw t_0) fun r2=>br (!r2) (ok true) (bd (R.iL l_3) fun r3=>br (!r3) (ok true) (bd (R.fX lim_1) fun r4=>br (!r4) (ok true) (bd (R.fX more_2) fun r5=>br (!r5) (ok true) (bd (R.jc lim_1) fun r6=>br (!r6) (ok true) (bd (R.jc more_2) fun r7=>br (!r7) (ok true) (br (ilt more_2.2.2 lim_1.2.2) (ok true) (br (ilt more_2.2.1 lim_1.2.1) (ok true) (ok ((ilt more_2.1 lim_1.1))))))))))) fun x8=>br x8 (bd (R.eS) fun r9=>ok r9) (cl (R.fh t_0 lim_1 l_3) fh.g.o fun r10=>cl (R.fh t_0 more_2 l_3) fh.g.o fun r11=>bd (R.eS) fun r12=>br r12 (br (ile 4 r10.2.1) (ok true) (cl (R.eo r10.1) eo.g.o fun r13=>cl (R.eo r11.1) eo.g.o fun r14=>bd (R.eL r13 r14) fun r15=>br r15 (cl (R.ef r10.2) ef.g.o fun r16=>cl (R.ef r11.2) ef.g.o fun r17=>bd (R.eN r16 r17) fun r18=>ok r18) (ok false))) (ok false))))
end Go.Mach
end

set_option linter.unusedVariables false
set_option maxRecDepth 100000
noncomputable section
namespace Go.Mach
open Go.Proofs
abbrev pc (a:List (Nat×VSh)) (b:List Nat):Ann:=.piece [(.nrm,⟨a,b,[],[]⟩)] .none
def owned:List (TypeId×Sh):=[(168,kh)]
abbrev Q (l:List Spec):Env:={ P:=Tryz.prog,specs:=l,ety:=pU Tryz.prog owned }
def fm.spec:Spec:=fm.g.sp 138 fun x=>R.fm x
def kL.spec:Spec:=kL.g.sp 97 fun x=>R.kL x
def lS.spec:Spec:=lS.g.sp 172 fun x=>R.lS x
def lJ.spec:Spec:=lJ.g.sp 173 fun x=>R.lJ x
def dk.spec:Spec:=dk.g.sp 174 fun x=>R.dk x.1 x.2
def fl.spec:Spec:=fl.g.sp 157 fun x=>R.fl x
def gd.spec:Spec:=gd.g.sp 143 fun x=>R.gd x
def iP.spec:Spec:=iP.g.sp 144 fun x=>R.iP x
def fS.spec:Spec:=fS.g.sp 208 fun x=>R.fS x
def ba.spec:Spec:=ba.g.sp 179 fun x=>R.ba x.1 x.2.1 x.2.2
def bK.spec:Spec:=bK.g.sp 207 fun x=>R.bK x.1 x.2
def kD.spec:Spec:=kD.g.sp 142 fun x=>R.kD x
def fq.spec:Spec:=fq.g.sp 176 fun x=>R.fq x
def bm.spec:Spec:=bm.g.sp 179 fun x=>R.bm x.1 x.2.1 x.2.2
def cL.spec:Spec:=cL.g.sp 207 fun x=>R.cL x.1 x.2
def dq.spec:Spec:=dq.g.sp 241 fun x=>R.dq x.1 x.2
def bM.spec:Spec:=bM.g.sp 179 fun x=>R.bM x.1 x.2.1 x.2.2
def fD.spec:Spec:=fD.g.sp 210 fun x=>R.fD x.1 x.2
def cc.spec:Spec:=cc.g.sp 179 fun x=>R.cc x.1 x.2.1 x.2.2
def aj.spec:Spec:=aj.g.sp 77 fun x=>R.aj x
def jS.spec:Spec:=jS.g.sp 82 fun x=>R.jS x
def gZ.spec:Spec:=gZ.g.sp 87 fun x=>R.gZ x
def cy.spec:Spec:=cy.g.sp 154 fun x=>R.cy x.1 x.2
def cW.spec:Spec:=cW.g.sp 124 fun x=>R.cW x.1 x.2
def iK.spec:Spec:=iK.g.sp 83 fun x=>R.iK x
def cj.spec:Spec:=cj.g.sp 125 fun x=>R.cj x.1 x.2
def gn.spec:Spec:=gn.g.sp 84 fun x=>R.gn x.1 x.2
def gh.spec:Spec:=gh.g.sp 86 fun x=>R.gh x
def aq.spec:Spec:=aq.g.sp 126 fun x=>R.aq x.1 x.2
def ak.spec:Spec:=ak.g.sp 85 fun x=>R.ak x.1 x.2
def jQ.spec:Spec:=jQ.g.sp 88 fun x=>R.jQ x
def kY.spec:Spec:=kY.g.sp 36 fun x=>R.kY x
def eP.spec:Spec:=eP.g.sp 151 fun _=>R.eP
def eH.spec:Spec:=eH.g.sp 118 fun x=>R.eH x
def iu.spec:Spec:=iu.g.sp 127 fun x=>R.iu x
def cP.spec:Spec:=cP.g.sp 128 fun x=>R.cP x
def fL.spec:Spec:=fL.g.sp 129 fun x=>R.fL x
def kX.spec:Spec:=kX.g.sp 89 fun x=>R.kX x
def gP.spec:Spec:=gP.g.sp 53 fun x=>R.gP x
def ed.spec:Spec:=ed.g.sp 177 fun x=>R.ed x
def ej.spec:Spec:=ej.g.sp 178 fun x=>R.ej x
def eT.spec:Spec:=eT.g.sp 73 fun x=>R.eT x
def lC.spec:Spec:=lC.g.sp 212 fun x=>R.lC x
def fo.spec:Spec:=fo.g.sp 180 fun x=>R.fo x
def fQ.spec:Spec:=fQ.g.sp 158 fun x=>R.fQ x
def kS.spec:Spec:=kS.g.sp 139 fun x=>R.kS x
def bB.spec:Spec:=bB.g.sp 159 fun x=>R.bB x.1 x.2
def aR.spec:Spec:=aR.g.sp 160 fun x=>R.aR x
def gM.spec:Spec:=gM.g.sp 181 fun x=>R.gM x.1 x.2
def bW.spec:Spec:=bW.g.sp 218 fun x=>R.bW x.1 x.2
def aM.spec:Spec:=aM.g.sp 184 fun x=>R.aM x.1 x.2
def ca.spec:Spec:=ca.g.sp 183 fun x=>R.ca x
def bV.spec:Spec:=bV.g.sp 185 fun x=>R.bV x
def ah.spec:Spec:=ah.g.sp 213 fun x=>R.ah x.1 x.2
def bE.spec:Spec:=bE.g.sp 214 fun x=>R.bE x.1 x.2.1 x.2.2
def cF.spec:Spec:=cF.g.sp 216 fun x=>R.cF x
def bD.spec:Spec:=bD.g.sp 221 fun x=>R.bD x.1 x.2
def fC.spec:Spec:=fC.g.sp 245 fun x=>R.fC x
def dm.spec:Spec:=dm.g.sp 219 fun x=>R.dm x
def ga.spec:Spec:=ga.g.sp 101 fun x=>R.ga x
def bT.spec:Spec:=bT.g.sp 145 fun x=>R.bT x.1 x.2
def aQ.spec:Spec:=aQ.g.sp 102 fun x=>R.aQ x.1 x.2
def lp.spec:Spec:=lp.g.sp 247 fun x=>R.lp x.1 x.2
def gF.spec:Spec:=gF.g.sp 107 fun x=>R.gF x
def jY.spec:Spec:=jY.g.sp 311 fun x=>R.jY x
def parse_parser_item.spec (G:b8):Spec:=parse_parser_item.g.sp 161 fun x=>G.parse_parser_item x
def parse_parser_declares.spec (G:b8):Spec:=parse_parser_declares.g.sp 182 fun x=>G.parse_parser_declares x
def parse_parser_statement.spec (G:b8):Spec:=parse_parser_statement.g.sp 187 fun x=>G.parse_parser_statement x
def parse_parser_assign.spec (G:b8):Spec:=parse_parser_assign.g.sp 215 fun x=>G.parse_parser_assign x
def parse_parser_word.spec (G:b8):Spec:=parse_parser_word.g.sp 222 fun x=>G.parse_parser_word x.1 x.2
def parse_parser_simple.spec (G:b8):Spec:=parse_parser_simple.g.sp 223 fun x=>G.parse_parser_simple x
def parse_parser_body.spec (G:b8):Spec:=parse_parser_body.g.sp 244 fun x=>G.parse_parser_body x.1 x.2
def parse_parser_cond.spec (G:b8):Spec:=parse_parser_cond.g.sp 246 fun x=>G.parse_parser_cond x
def parse_parser_either.spec (G:b8):Spec:=parse_parser_either.g.sp 269 fun x=>G.parse_parser_either x
def parse_parser_level.spec (G:b8):Spec:=parse_parser_level.g.sp 284 fun x=>G.parse_parser_level x.1 x.2
def parse_parser_both.spec (G:b8):Spec:=parse_parser_both.g.sp 285 fun x=>G.parse_parser_both x.1 x.2
def parse_parser_unary.spec (G:b8):Spec:=parse_parser_unary.g.sp 310 fun x=>G.parse_parser_unary x
def parse_parser_calls.spec (G:b8):Spec:=parse_parser_calls.g.sp 344 fun x=>G.parse_parser_calls x
def parse_parser_head.spec (G:b8):Spec:=parse_parser_head.g.sp 390 fun x=>G.parse_parser_head x
def parse_parser_arguments.spec (G:b8):Spec:=parse_parser_arguments.g.sp 391 fun x=>G.parse_parser_arguments x
def parse_parser_member.spec (G:b8):Spec:=parse_parser_member.g.sp 392 fun x=>G.parse_parser_member x.1 x.2
def parse_parser_primary.spec (G:b8):Spec:=parse_parser_primary.g.sp 428 fun x=>G.parse_parser_primary x
def parse_parser_list.spec (G:b8):Spec:=parse_parser_list.g.sp 429 fun x=>G.parse_parser_list x.1 x.2
def dO.spec:Spec:=dO.g.sp 140 fun x=>R.dO x
def ig.spec (fu:Nat):Spec:=ig.g.sp 162 fun x=>R.ig fu x.1 x.2
def kO.spec:Spec:=kO.g.sp 141 fun x=>R.kO x
def jC.spec:Spec:=jC.g.sp 42 fun x=>R.jC x
def eG.spec:Spec:=eG.g.sp 41 fun x=>R.eG x
def jX.spec:Spec:=jX.g.sp 98 fun x=>R.jX x
def jo.spec:Spec:=jo.g.sp 38 fun x=>R.jo x
def j6.spec:Spec:=j6.g.sp 37 fun x=>R.j6 x
def kz.spec:Spec:=kz.g.sp 100 fun x=>R.kz x
def j8.spec:Spec:=j8.g.sp 99 fun x=>R.j8 x
def pZ.env (P:Program):Env:={ P:=P,specs:=[],ety:=pU P owned }
def fU.spec:Spec:=fU.g.sp 61 fun x=>R.fU x
def hJ.spec:Spec:=hJ.g.sp 39 fun x=>R.hJ x
def gj.spec:Spec:=gj.g.sp 103 fun x=>R.gj x.1 x.2
def jO.spec:Spec:=jO.g.sp 62 fun x=>R.jO x.1 x.2
def jl.spec:Spec:=jl.g.sp 63 fun x=>R.jl x
def eU.spec:Spec:=eU.g.sp 104 fun x=>R.eU x
def lB.spec:Spec:=lB.g.sp 105 fun x=>R.lB x
def dn.spec:Spec:=dn.g.sp 106 fun x=>R.dn x
def kn.spec:Spec:=kn.g.sp 64 fun x=>R.kn x.1 x.2
def iJ.spec:Spec:=iJ.g.sp 65 fun x=>R.iJ x.1 x.2
def jy.spec:Spec:=jy.g.sp 40 fun x=>R.jy x.1 x.2
def lV.spec:Spec:=lV.g.sp 12 fun x=>R.lV x
def gH.spec:Spec:=gH.g.sp 56 fun x=>R.gH x
def fY.spec:Spec:=fY.g.sp 130 fun x=>R.fY x
def gi.spec:Spec:=gi.g.sp 131 fun x=>R.gi x.1 x.2
def eJ.spec:Spec:=eJ.g.sp 132 fun x=>R.eJ x
def eX.spec:Spec:=eX.g.sp 91 fun x=>R.eX x.1 x.2
def i7.spec:Spec:=i7.g.sp 90 fun x=>R.i7 x
def gg.spec:Spec:=gg.g.sp 134 fun x=>R.gg x.1 x.2
def ay.spec:Spec:=ay.g.sp 155 fun x=>R.ay x.1 x.2
def al.spec:Spec:=al.g.sp 133 fun x=>R.al x.1 x.2
def i6.spec:Spec:=i6.g.sp 92 fun x=>R.i6 x.1 x.2.1 x.2.2
def fJ.spec:Spec:=fJ.g.sp 93 fun x=>R.fJ x.1 x.2.1 x.2.2
def gx.spec:Spec:=gx.g.sp 95 fun x=>R.gx x.1 x.2.1 x.2.2
def bC.spec:Spec:=bC.g.sp 135 fun x=>R.bC x.1 x.2
def ax.spec:Spec:=ax.g.sp 94 fun x=>R.ax x.1 x.2
def jM.spec:Spec:=jM.g.sp 136 fun x=>R.jM x
def fV.spec:Spec:=fV.g.sp 137 fun x=>R.fV x.1 x.2
def iz.spec:Spec:=iz.g.sp 96 fun x=>R.iz x.1 x.2.1 x.2.2
def iy.spec:Spec:=iy.g.sp 57 fun x=>R.iy x.1 x.2.1 x.2.2
def gE.spec:Spec:=gE.g.sp 26 fun x=>R.gE x
def ic.spec:Spec:=ic.g.sp 60 fun x=>R.ic x
def jc.spec:Spec:=jc.g.sp 27 fun x=>R.jc x
def lG.spec:Spec:=lG.g.sp 66 fun x=>R.lG x
def di.spec:Spec:=di.g.sp 166 fun x=>R.di x
def gR.spec:Spec:=gR.g.sp 188 fun x=>R.gR x
def eF.spec:Spec:=eF.g.sp 163 fun x=>R.eF x.1 x.2
def bl.spec:Spec:=bl.g.sp 164 fun x=>R.bl x.1 x.2
def aT.spec:Spec:=aT.g.sp 146 fun x=>R.aT x.1 x.2
def bS.spec:Spec:=bS.g.sp 108 fun x=>R.bS x.1 x.2
def av.spec:Spec:=av.g.sp 150 fun x=>R.av x.1 x.2
def fR.spec:Spec:=fR.g.sp 190 fun x=>R.fR x.1 x.2
def aa.spec:Spec:=aa.g.sp 189 fun x=>R.aa x.1 x.2
def cX.spec:Spec:=cX.g.sp 165 fun x=>R.cX x.1 x.2.1 x.2.2
def bA.spec:Spec:=bA.g.sp 147 fun x=>R.bA x.1 x.2.1 x.2.2.1 x.2.2.2.1 x.2.2.2.2.1 x.2.2.2.2.2
def ee.spec:Spec:=ee.g.sp 228 fun x=>R.ee x.1 x.2
def aZ.spec:Spec:=aZ.g.sp 227 fun x=>R.aZ x.1 x.2
def cm.spec:Spec:=cm.g.sp 191 fun x=>R.cm x.1 x.2.1 x.2.2
def bU.spec:Spec:=bU.g.sp 167 fun x=>R.bU x.1 x.2.1 x.2.2.1 x.2.2.2
def cQ.spec:Spec:=cQ.g.sp 168 fun x=>R.cQ x.1 x.2.1 x.2.2.1 x.2.2.2.1 x.2.2.2.2
def cG.spec:Spec:=cG.g.sp 148 fun x=>R.cG x.1 x.2.1 x.2.2
def bx.spec:Spec:=bx.g.sp 109 fun x=>R.bx x.1 x.2.1 x.2.2
def bj.spec:Spec:=bj.g.sp 169 fun x=>R.bj x
def fF.spec:Spec:=fF.g.sp 198 fun x=>R.fF x.1 x.2.1 x.2.2
def fI.spec:Spec:=fI.g.sp 230 fun x=>R.fI x.1 x.2
def iY.spec:Spec:=iY.g.sp 232 fun x=>R.iY x.1 x.2
def eB.spec:Spec:=eB.g.sp 263 fun x=>R.eB x.1 x.2
def dM.spec:Spec:=dM.g.sp 234 fun x=>R.dM x.1 x.2
def cD.spec:Spec:=cD.g.sp 20 fun x=>R.cD x
def db.spec:Spec:=db.g.sp 254 fun x=>R.db x
def b9.spec:Spec:=b9.g.sp 255 fun x=>R.b9 x
def dE.spec:Spec:=dE.g.sp 286 fun x=>R.dE x.1 x.2.1 x.2.2
def cY.spec:Spec:=cY.g.sp 312 fun x=>R.cY x.1 x.2
def aE.spec:Spec:=aE.g.sp 287 fun x=>R.aE x.1 x.2
def gW.spec:Spec:=gW.g.sp 313 fun _=>R.gW
def fe.spec:Spec:=fe.g.sp 384 fun x=>R.fe x
def fO.spec:Spec:=fO.g.sp 385 fun _=>R.fO
def cd.spec:Spec:=cd.g.sp 340 fun _=>R.cd
def cZ.spec:Spec:=cZ.g.sp 314 fun x=>R.cZ x
def iD.spec:Spec:=iD.g.sp 288 fun x=>R.iD x
def jx.spec:Spec:=jx.g.sp 289 fun x=>R.jx x
def aK.spec:Spec:=aK.g.sp 258 fun x=>R.aK x
def dF.spec:Spec:=dF.g.sp 271 fun x=>R.dF x.1 x.2.1 x.2.2.1 x.2.2.2
def dc.spec:Spec:=dc.g.sp 256 fun x=>R.dc x.1 x.2.1 x.2.2
def bF.spec:Spec:=bF.g.sp 257 fun x=>R.bF x
def iZ.spec:Spec:=iZ.g.sp 35 fun x=>R.iZ x
def lX.spec:Spec:=lX.g.sp 10 fun x=>R.lX x
def bt.spec:Spec:=bt.g.sp 44 fun x=>R.bt x
def eg.spec:Spec:=eg.g.sp 308 fun x=>R.eg x
def iH.spec:Spec:=iH.g.sp 309 fun x=>R.iH x
def iN.spec:Spec:=iN.g.sp 282 fun x=>R.iN x.1 x.2
def fp.spec:Spec:=fp.g.sp 262 fun x=>R.fp x
def fT.spec:Spec:=fT.g.sp 272 fun x=>R.fT x
def bR.spec:Spec:=bR.g.sp 19 fun x=>R.bR x
def j9.spec:Spec:=j9.g.sp 46 fun x=>R.j9 x
def cC.spec:Spec:=cC.g.sp 295 fun x=>R.cC x
def cn.spec:Spec:=cn.g.sp 116 fun x=>R.cn x
def fy.spec:Spec:=fy.g.sp 117 fun x=>R.fy x
def iF.spec:Spec:=iF.g.sp 112 fun x=>R.iF x
def gA.spec:Spec:=gA.g.sp 112 fun x=>R.gA x
def dt.spec:Spec:=dt.g.sp 69 fun x=>R.dt x.1 x.2
def kW.spec:Spec:=kW.g.sp 75 fun x=>R.kW x
def gX.spec:Spec:=gX.g.sp 346 fun x=>R.gX x
def jU.spec:Spec:=jU.g.sp 345 fun x=>R.jU x
def lN.spec:Spec:=lN.g.sp 315 fun x=>R.lN x.1 x.2.1 x.2.2
def jT.spec:Spec:=jT.g.sp 291 fun x=>R.jT x.1 x.2
def bX.spec:Spec:=bX.g.sp 290 fun x=>R.bX x.1 x.2.1 x.2.2
def aw.spec:Spec:=aw.g.sp 305 fun x=>R.aw x.1 x.2
def gJ.spec:Spec:=gJ.g.sp 303 fun x=>R.gJ x
def iA.spec:Spec:=iA.g.sp 316 fun x=>R.iA x
def ey.spec:Spec:=ey.g.sp 292 fun x=>R.ey x.1 x.2
def jB.spec:Spec:=jB.g.sp 341 fun x=>R.jB x
def lM.spec:Spec:=lM.g.sp 78 fun x=>R.lM x
def bn.spec:Spec:=bn.g.sp 120 fun x=>R.bn x
def kE.spec:Spec:=kE.g.sp 79 fun x=>R.kE x
def cx.spec:Spec:=cx.g.sp 48 fun x=>R.cx x
def bc.spec:Spec:=bc.g.sp 386 fun x=>R.bc x
def eZ.spec:Spec:=eZ.g.sp 323 fun x=>R.eZ x
def fA.spec:Spec:=fA.g.sp 342 fun x=>R.fA x.1 x.2.1 x.2.2
def aY.spec:Spec:=aY.g.sp 111 fun x=>R.aY x.1 x.2
def cA.spec:Spec:=cA.g.sp 304 fun x=>R.cA x.1 x.2.1 x.2.2
def dD.spec:Spec:=dD.g.sp 324 fun x=>R.dD x.1 x.2.1 x.2.2
def gV.spec:Spec:=gV.g.sp 325 fun x=>R.gV x
def bG.spec:Spec:=bG.g.sp 326 fun x=>R.bG x.1 x.2
def eu.spec:Spec:=eu.g.sp 387 fun x=>R.eu x.1 x.2.1 x.2.2.1 x.2.2.2.1 x.2.2.2.2
def p9.env (P:Program):Env:={ P:=P,specs:=[av.spec],ety:=pU P owned }
def cu.spec:Spec:=cu.g.sp 380 fun x=>R.cu x.1 x.2
def bO.spec:Spec:=bO.g.sp 11 fun x=>R.bO x
def dQ.spec:Spec:=dQ.g.sp 14 fun x=>R.dQ x
def cf.spec:Spec:=cf.g.sp 432 fun x=>R.cf x
def gp.spec:Spec:=gp.g.sp 438 fun x=>R.gp x.1 x.2
def bP.spec:Spec:=bP.g.sp 378 fun x=>R.bP x.1 x.2
def pk.env (P:Program):Env:={ P:=P,specs:=[av.spec],ety:=pU P owned }
def cB.spec:Spec:=cB.g.sp 416 fun x=>R.cB x.1 x.2.1 x.2.2.1 x.2.2.2.1 x.2.2.2.2.1 x.2.2.2.2.2
def gq.spec:Spec:=gq.g.sp 51 fun x=>R.gq x.1 x.2
def jG.spec:Spec:=jG.g.sp 17 fun x=>R.jG x.1 x.2
def fH.spec:Spec:=fH.g.sp 54 fun x=>R.fH x.1 x.2
def jH.spec:Spec:=jH.g.sp 21 fun x=>R.jH x.1 x.2
def dH.spec:Spec:=dH.g.sp 417 fun x=>R.dH x.1 x.2
def cz.spec:Spec:=cz.g.sp 388 fun x=>R.cz x.1 x.2.1 x.2.2
def dv.spec:Spec:=dv.g.sp 389 fun x=>R.dv x.1 x.2.1 x.2.2.1 x.2.2.2
def dW.spec:Spec:=dW.g.sp 343 fun x=>R.dW x.1 x.2.1 x.2.2
def dP.spec:Spec:=dP.g.sp 307 fun x=>R.dP x.1 x.2
def dd.spec:Spec:=dd.g.sp 294 fun x=>R.dd x.1 x.2.1 x.2.2
def jt.spec:Spec:=jt.g.sp 45 fun x=>R.jt x
def lI.spec:Spec:=lI.g.sp 348 fun x=>R.lI x.1 x.2
def iq.spec:Spec:=iq.g.sp 347 fun x=>R.iq x.1 x.2
def ki.spec:Spec:=ki.g.sp 393 fun x=>R.ki x
def jk.spec:Spec:=jk.g.sp 349 fun x=>R.jk x.1 x.2
def jK.spec:Spec:=jK.g.sp 153 fun x=>R.jK x.1 x.2.1 x.2.2
def iR.spec:Spec:=iR.g.sp 122 fun x=>R.iR x.1 x.2
def kU.spec:Spec:=kU.g.sp 318 fun x=>R.kU x.1 x.2
def fE.spec:Spec:=fE.g.sp 317 fun x=>R.fE x.1 x.2
def eM.spec:Spec:=eM.g.sp 350 fun x=>R.eM x
def mY.spec:Spec:=mY.g.sp 351 fun x=>R.mY x
def ke.spec:Spec:=ke.g.sp 320 fun x=>R.ke x.1 x.2
def cg.spec:Spec:=cg.g.sp 319 fun x=>R.cg x.1 x.2
def kR.spec:Spec:=kR.g.sp 296 fun x=>R.kR x.1 x.2
def eA.spec:Spec:=eA.g.sp 321 fun x=>R.eA x.1 x.2.1 x.2.2.1 x.2.2.2
def jF.spec:Spec:=jF.g.sp 113 fun x=>R.jF x
def kP.spec:Spec:=kP.g.sp 71 fun x=>R.kP x
def iU.spec:Spec:=iU.g.sp 114 fun x=>R.iU x
def iv.spec:Spec:=iv.g.sp 72 fun x=>R.iv x
def jm.spec:Spec:=jm.g.sp 115 fun x=>R.jm x
def kN.spec:Spec:=kN.g.sp 74 fun x=>R.kN x
def iI.spec:Spec:=iI.g.sp 76 fun x=>R.iI x
def iT.spec:Spec:=iT.g.sp 47 fun x=>R.iT x
def fN.spec:Spec:=fN.g.sp 15 fun x=>R.fN x
def mL.spec:Spec:=mL.g.sp 121 fun x=>R.mL x.1 x.2
def kF.spec:Spec:=kF.g.sp 123 fun x=>R.kF x
def ir.spec:Spec:=ir.g.sp 81 fun x=>R.ir x.1 x.2
def lD.spec:Spec:=lD.g.sp 52 fun x=>R.lD x
def fb.spec:Spec:=fb.g.sp 18 fun x=>R.fb x.1 x.2
def ff.spec:Spec:=ff.g.sp 22 fun x=>R.ff x.1 x.2
def gv.spec:Spec:=gv.g.sp 394 fun x=>R.gv x.1 x.2
def iE.spec:Spec:=iE.g.sp 431 fun x=>R.iE x.1 x.2
def da.spec:Spec:=da.g.sp 430 fun x=>R.da x.1 x.2.1 x.2.2.1 x.2.2.2
def bo.spec:Spec:=bo.g.sp 395 fun x=>R.bo x.1 x.2.1 x.2.2.1 x.2.2.2.1 x.2.2.2.2.1 x.2.2.2.2.2.1 x.2.2.2.2.2.2
def fa.spec:Spec:=fa.g.sp 352 fun x=>R.fa x.1 x.2.1 x.2.2.1 x.2.2.2
def fc.spec:Spec:=fc.g.sp 322 fun x=>R.fc x.1 x.2.1 x.2.2
def eR.spec:Spec:=eR.g.sp 297 fun x=>R.eR x.1 x.2.1 x.2.2.1 x.2.2.2
def gO.spec:Spec:=gO.g.sp 298 fun x=>R.gO x.1 x.2.1 x.2.2
def kT.spec:Spec:=kT.g.sp 327 fun x=>R.kT x.1 x.2
def ez.spec:Spec:=ez.g.sp 353 fun x=>R.ez x.1 x.2
def mN.spec:Spec:=mN.g.sp 396 fun x=>R.mN x.1 x.2
def mH.spec:Spec:=mH.g.sp 397 fun x=>R.mH x.1 x.2
def jI.spec:Spec:=jI.g.sp 442 fun x=>R.jI x.1 x.2
def iG.spec:Spec:=iG.g.sp 433 fun x=>R.iG x.1 x.2
def mI.spec:Spec:=mI.g.sp 398 fun x=>R.mI x.1 x.2
def mG.spec:Spec:=mG.g.sp 399 fun x=>R.mG x.1 x.2
def kI.spec:Spec:=kI.g.sp 354 fun x=>R.kI x.1 x.2.1 x.2.2
def mO.spec:Spec:=mO.g.sp 355 fun x=>R.mO x.1 x.2
def jA.spec:Spec:=jA.g.sp 400 fun x=>R.jA x
def ch.spec:Spec:=ch.g.sp 401 fun x=>R.ch x
def fW.spec:Spec:=fW.g.sp 403 fun x=>R.fW x
def jL.spec:Spec:=jL.g.sp 402 fun x=>R.jL x.1 x.2
def gG.spec:Spec:=gG.g.sp 404 fun x=>R.gG x.1 x.2
def mS.spec:Spec:=mS.g.sp 356 fun x=>R.mS x.1 x.2
def mQ.spec:Spec:=mQ.g.sp 357 fun x=>R.mQ x.1 x.2
def mJ.spec:Spec:=mJ.g.sp 358 fun x=>R.mJ x.1 x.2
def ja.spec:Spec:=ja.g.sp 328 fun x=>R.ja x.1 x.2.1 x.2.2
def kM.spec:Spec:=kM.g.sp 329 fun x=>R.kM x.1 x.2.1 x.2.2
def eO.spec:Spec:=eO.g.sp 443 fun x=>R.eO x
def dK.spec:Spec:=dK.g.sp 434 fun x=>R.dK x.1 x.2
def cV.spec:Spec:=cV.g.sp 405 fun x=>R.cV x.1 x.2
def kq.spec:Spec:=kq.g.sp 359 fun x=>R.kq x.1 x.2
def kc.spec:Spec:=kc.g.sp 406 fun x=>R.kc x.1 x.2
def gl.spec:Spec:=gl.g.sp 407 fun x=>R.gl x.1 x.2
def js.spec:Spec:=js.g.sp 408 fun x=>R.js x.1 x.2
def jN.spec:Spec:=jN.g.sp 360 fun x=>R.jN x.1 x.2
def gz.spec:Spec:=gz.g.sp 330 fun x=>R.gz x.1 x.2.1 x.2.2.1 x.2.2.2
def dL.spec:Spec:=dL.g.sp 409 fun x=>R.dL x.1 x.2
def kp.spec:Spec:=kp.g.sp 361 fun x=>R.kp x.1 x.2
def gS.spec:Spec:=gS.g.sp 331 fun x=>R.gS x.1 x.2
def jV.spec:Spec:=jV.g.sp 362 fun x=>R.jV x
def gB.spec:Spec:=gB.g.sp 363 fun x=>R.gB x
def lL.spec:Spec:=lL.g.sp 410 fun x=>R.lL x.1 x.2
def jn.spec:Spec:=jn.g.sp 364 fun x=>R.jn x.1 x.2
def jE.spec:Spec:=jE.g.sp 332 fun x=>R.jE x.1 x.2
def gT.spec:Spec:=gT.g.sp 299 fun x=>R.gT x.1 x.2.1 x.2.2
def bY.spec:Spec:=bY.g.sp 335 fun x=>R.bY x.1 x.2
def eh.spec:Spec:=eh.g.sp 413 fun x=>R.eh x
def kH.spec:Spec:=kH.g.sp 377 fun x=>R.kH x
def cU.spec:Spec:=cU.g.sp 334 fun x=>R.cU x
def dA.spec:Spec:=dA.g.sp 336 fun x=>R.dA x.1 x.2
def dI.spec:Spec:=dI.g.sp 379 fun x=>R.dI x.1 x.2
def c7.spec:Spec:=c7.g.sp 337 fun x=>R.c7 x.1 x.2
def cp.spec:Spec:=cp.g.sp 440 fun x=>R.cp x.1 x.2
def cT.spec:Spec:=cT.g.sp 427 fun x=>R.cT x.1 x.2
def dh.spec:Spec:=dh.g.sp 381 fun x=>R.dh x.1 x.2
def ei.spec:Spec:=ei.g.sp 382 fun x=>R.ei x
def jP.spec:Spec:=jP.g.sp 338 fun x=>R.jP x
def er.spec:Spec:=er.g.sp 383 fun x=>R.er x.1 x.2.1 x.2.2.1 x.2.2.2.1 x.2.2.2.2
def dU.spec:Spec:=dU.g.sp 339 fun x=>R.dU x.1 x.2.1 x.2.2
def cM.spec:Spec:=cM.g.sp 436 fun x=>R.cM x.1 x.2
def aP.spec:Spec:=aP.g.sp 448 fun x=>R.aP x.1 x.2.1 x.2.2.1 x.2.2.2
def aN.spec:Spec:=aN.g.sp 459 fun x=>R.aN x.1 x.2.1 x.2.2.1 x.2.2.2.1 x.2.2.2.2
def aW.spec:Spec:=aW.g.sp 455 fun x=>R.aW x.1 x.2.1 x.2.2.1 x.2.2.2.1 x.2.2.2.2
def aJ.spec (fu:Nat):Spec:=aJ.g.sp 449 fun x=>R.aJ fu x.1 x.2.1 x.2.2.1 x.2.2.2.1 x.2.2.2.2
def aX.spec:Spec:=aX.g.sp 444 fun x=>R.aX x.1 x.2.1 x.2.2
def aU.spec:Spec:=aU.g.sp 435 fun x=>R.aU x.1 x.2
def eC.spec:Spec:=eC.g.sp 411 fun x=>R.eC x.1 x.2
def ep.spec:Spec:=ep.g.sp 365 fun x=>R.ep x.1 x.2
def dZ.spec:Spec:=dZ.g.sp 366 fun x=>R.dZ x.1 x.2.1 x.2.2
def ev.spec:Spec:=ev.g.sp 367 fun x=>R.ev x.1 x.2.1 x.2.2
def eE.spec:Spec:=eE.g.sp 368 fun x=>R.eE x.1 x.2
def kG.spec:Spec:=kG.g.sp 412 fun x=>R.kG x
def cr.spec:Spec:=cr.g.sp 369 fun x=>R.cr x.1 x.2.1 x.2.2
def dX.spec:Spec:=dX.g.sp 370 fun x=>R.dX x.1 x.2
def dB.spec:Spec:=dB.g.sp 371 fun x=>R.dB x.1 x.2.1 x.2.2
def cK.spec:Spec:=cK.g.sp 414 fun x=>R.cK x.1 x.2
def cO.spec:Spec:=cO.g.sp 372 fun x=>R.cO x.1 x.2
def cN.spec:Spec:=cN.g.sp 418 fun x=>R.cN x.1 x.2
def bw.spec:Spec:=bw.g.sp 374 fun x=>R.bw x.1 x.2
def gm.spec:Spec:=gm.g.sp 415 fun x=>R.gm x.1 x.2
def dV.spec:Spec:=dV.g.sp 373 fun x=>R.dV x.1 x.2.1 x.2.2.1 x.2.2.2
def dz.spec:Spec:=dz.g.sp 419 fun x=>R.dz x.1 x.2.1 x.2.2
def eQ.spec:Spec:=eQ.g.sp 426 fun x=>R.eQ x
def eI.spec:Spec:=eI.g.sp 420 fun x=>R.eI x.1 x.2.1 x.2.2.1 x.2.2.2.1 x.2.2.2.2.1 x.2.2.2.2.2
def cq.spec:Spec:=cq.g.sp 421 fun x=>R.cq x.1 x.2.1 x.2.2.1 x.2.2.2.1 x.2.2.2.2
def gC.spec:Spec:=gC.g.sp 422 fun x=>R.gC x.1 x.2
def iX.spec:Spec:=iX.g.sp 439 fun x=>R.iX x.1 x.2.1 x.2.2.1 x.2.2.2
def cw.spec:Spec:=cw.g.sp 423 fun x=>R.cw x.1 x.2.1 x.2.2.1 x.2.2.2
def gr.spec:Spec:=gr.g.sp 424 fun x=>R.gr x
def dS.spec:Spec:=dS.g.sp 375 fun x=>R.dS x.1 x.2.1 x.2.2
def eval_run_list.spec (G:au):Spec:=eval_run_list.g.sp 110 fun x=>G.eval_run_list x.1 x.2.1 x.2.2
def eval_run_statement.spec (G:au):Spec:=eval_run_statement.g.sp 149 fun x=>G.eval_run_statement x.1 x.2.1 x.2.2.1 x.2.2.2
def eval_run_act.spec (G:au):Spec:=eval_run_act.g.sp 170 fun x=>G.eval_run_act x.1 x.2.1 x.2.2.1 x.2.2.2
def eval_run_expression.spec (G:au):Spec:=eval_run_expression.g.sp 192 fun x=>G.eval_run_expression x.1 x.2.1 x.2.2
def eval_run_block.spec (G:au):Spec:=eval_run_block.g.sp 193 fun x=>G.eval_run_block x.1 x.2.1 x.2.2
def eval_run_decls.spec (G:au):Spec:=eval_run_decls.g.sp 194 fun x=>G.eval_run_decls x.1 x.2.1 x.2.2
def eval_run_choice.spec (G:au):Spec:=eval_run_choice.g.sp 195 fun x=>G.eval_run_choice x.1 x.2.1 x.2.2
def eval_run_while.spec (G:au):Spec:=eval_run_while.g.sp 196 fun x=>G.eval_run_while x.1 x.2.1 x.2.2.1 x.2.2.2
def eval_run_loop.spec (G:au):Spec:=eval_run_loop.g.sp 197 fun x=>G.eval_run_loop x.1 x.2.1 x.2.2.1 x.2.2.2
def eval_run_try.spec (G:au):Spec:=eval_run_try.g.sp 199 fun x=>G.eval_run_try x.1 x.2.1 x.2.2
def eval_run_value.spec (G:au):Spec:=eval_run_value.g.sp 229 fun x=>G.eval_run_value x.1 x.2.1 x.2.2
def eval_run_asked.spec (G:au):Spec:=eval_run_asked.g.sp 231 fun x=>G.eval_run_asked x.1 x.2.1 x.2.2
def eval_run_first.spec (G:au):Spec:=eval_run_first.g.sp 233 fun x=>G.eval_run_first x.1 x.2.1 x.2.2
def eval_run_catch.spec (G:au):Spec:=eval_run_catch.g.sp 235 fun x=>G.eval_run_catch x.1 x.2.1 x.2.2.1 x.2.2.2.1 x.2.2.2.2
def eval_run_array.spec (G:au):Spec:=eval_run_array.g.sp 259 fun x=>G.eval_run_array x.1 x.2.1 x.2.2
def eval_run_object.spec (G:au):Spec:=eval_run_object.g.sp 260 fun x=>G.eval_run_object x.1 x.2.1 x.2.2
def eval_run_operation.spec (G:au):Spec:=eval_run_operation.g.sp 261 fun x=>G.eval_run_operation x.1 x.2.1 x.2.2.1 x.2.2.2
def eval_run_unary.spec (G:au):Spec:=eval_run_unary.g.sp 273 fun x=>G.eval_run_unary x.1 x.2.1 x.2.2.1 x.2.2.2
def eval_run_step.spec (G:au):Spec:=eval_run_step.g.sp 274 fun x=>G.eval_run_step x.1 x.2.1 x.2.2
def eval_run_binary.spec (G:au):Spec:=eval_run_binary.g.sp 275 fun x=>G.eval_run_binary x.1 x.2.1 x.2.2
def eval_run_logic.spec (G:au):Spec:=eval_run_logic.g.sp 276 fun x=>G.eval_run_logic x.1 x.2.1 x.2.2
def eval_run_assign.spec (G:au):Spec:=eval_run_assign.g.sp 277 fun x=>G.eval_run_assign x.1 x.2.1 x.2.2
def eval_run_callee.spec (G:au):Spec:=eval_run_callee.g.sp 278 fun x=>G.eval_run_callee x.1 x.2.1 x.2.2
def eval_run_arguments.spec (G:au):Spec:=eval_run_arguments.g.sp 279 fun x=>G.eval_run_arguments x.1 x.2.1 x.2.2
def eval_run_fresh.spec (G:au):Spec:=eval_run_fresh.g.sp 280 fun x=>G.eval_run_fresh x.1 x.2.1 x.2.2
def eval_run_property.spec (G:au):Spec:=eval_run_property.g.sp 281 fun x=>G.eval_run_property x.1 x.2.1 x.2.2
def eval_run_parts.spec (G:au):Spec:=eval_run_parts.g.sp 293 fun x=>G.eval_run_parts x.1 x.2.1 x.2.2
def eval_run_called.spec (G:au):Spec:=eval_run_called.g.sp 300 fun x=>G.eval_run_called x.1 x.2.1 x.2.2
def eval_run_call.spec (G:au):Spec:=eval_run_call.g.sp 301 fun x=>G.eval_run_call x.1 x.2.1 x.2.2.1 x.2.2.2
def eval_run_builds.spec (G:au):Spec:=eval_run_builds.g.sp 302 fun x=>G.eval_run_builds x.1 x.2.1 x.2.2
def eval_run_apply.spec (G:au):Spec:=eval_run_apply.g.sp 306 fun x=>G.eval_run_apply x.1 x.2.1 x.2.2.1 x.2.2.2
def eval_run_does.spec (G:au):Spec:=eval_run_does.g.sp 333 fun x=>G.eval_run_does x.1 x.2.1 x.2.2.1 x.2.2.2
def eval_run_host.spec (G:au):Spec:=eval_run_host.g.sp 376 fun x=>G.eval_run_host x.1 x.2.1 x.2.2
def eval_run_receives.spec (G:au):Spec:=eval_run_receives.g.sp 425 fun x=>G.eval_run_receives x.1 x.2
def dC.spec:Spec:=dC.g.sp 67 fun x=>R.dC x
def dY.spec:Spec:=dY.g.sp 68 fun x=>R.dY x.1 x.2
def gQ.spec:Spec:=gQ.g.sp 43 fun x=>R.gQ x.1 x.2.1 x.2.2
def fh.spec:Spec:=fh.g.sp 13 fun x=>R.fh x.1 x.2.1 x.2.2
def dx.spec:Spec:=dx.g.sp 33 fun x=>R.dx x.1 x.2
def ia.spec:Spec:=ia.g.sp 50 fun x=>R.ia x
def fK.spec:Spec:=fK.g.sp 49 fun x=>R.fK x.1 x.2
def fj.spec:Spec:=fj.g.sp 34 fun x=>R.fj x.1 x.2.1 x.2.2
def eS.spec:Spec:=eS.g.sp 8 fun _=>R.eS
def gI.spec:Spec:=gI.g.sp 55 fun x=>R.gI x.1 x.2
def iw.spec:Spec:=iw.g.sp 23 fun x=>R.iw x
def iL.spec:Spec:=iL.g.sp 24 fun x=>R.iL x
def fX.spec:Spec:=fX.g.sp 25 fun x=>R.fX x
def ef.spec:Spec:=ef.g.sp 31 fun x=>R.ef x
def eN.spec:Spec:=eN.g.sp 30 fun x=>R.eN x.1 x.2
def eo.spec:Spec:=eo.g.sp 29 fun x=>R.eo x
def ji.spec:Spec:=ji.g.sp 58 fun x=>R.ji x.1 x.2
def eL.spec:Spec:=eL.g.sp 28 fun x=>R.eL x.1 x.2
def ec.spec:Spec:=ec.g.sp 6 fun x=>R.ec x.1 x.2.1 x.2.2.1 x.2.2.2
abbrev zs0:Sh:=(.own (.frz (.list (.int .u16))))
abbrev zs1:Sh:=(.box (.frz aC))
abbrev zs2:Sh:=(.frz (.rose aF))
abbrev zs3:Sh:=(.seq .i (.seq (.frz aI) (.seq (.seq .b (.own .w)) (.seq (.own .h) .i))))
abbrev zs4:Sh:=(.frz (.int .u64))
abbrev zs5:Sh:=(.box (.seq .i (.seq .s (.seq (.own .h) (.seq (.frz aI) (.seq (.seq .b (.own .w)) (.seq .i .b)))))))
abbrev zs6:Sh:=(.box (.frz aV))
abbrev zs7:Sh:=(.frz (.list (.int .u16)))
end Go.Mach
end

