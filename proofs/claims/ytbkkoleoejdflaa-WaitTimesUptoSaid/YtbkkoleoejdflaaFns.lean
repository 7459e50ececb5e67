/-
  Proved here: the law WaitTimes of chapter 22 (behind an expiry nobody waits whose time has come; a later one takes no one twice) returns true for every input of at most 1048576 values and letters.
  Part Fns of the texts. By an AI agent; no person has read it.
-/
import Derived.Test.YtbkkoleoejdflaaMachd
import Derived.KernelRfl
import Derived.Test.YtbkkoleoejdflaaProg
import Derived.Shelf.SlSortCmp.NoneTotal
set_option linter.all false
set_option linter.deprecated false
set_option linter.unusedVariables false
set_option maxRecDepth 4000
namespace Go.Mach
abbrev T_runtime_errorAddressString : Ty := (.pair .str (.int .u64))
abbrev T_wait_Waiter : Ty := (.pair (.int .i64) (.pair (.int .i64) .bool))
abbrev T_runtime_boundsError : Ty := (.pair (.int .i64) (.pair (.int .i64) (.pair .bool (.int .u8))))
abbrev T_renlaw22_Op : Ty := (.pair (.int .i64) (.pair (.int .i64) (.pair (.int .i64) (.pair (.int .i64) (.pair T_wait_Waiter .bool)))))
/-- Places in order. -/
def plLe (x y : Int × Int) : Bool := decide (x.1 < y.1) || (x.1 == y.1 && decide (x.2 ≤ y.2))
def sortRun (xs : List (Int × Int)) : Res (Unit × List (Int × Int)) := Res.need (decide (xs.length < 4611686018427387904)) (Res.ok ((), xs.mergeSort plLe))
@[reducible] def sortS.ps (g : FuncId) : List Par := [.obj (.own (.frz (.pair (.int .i64) (.int .i64)))), .val false (.bor (.clo g .nil))]
@[reducible] def sortS.rs : List VSh := []
def sortS.okOut : outs (dens sortS.rs) (boxes (sortS.ps 0)) → Bool := outsOk (oks sortS.rs) (boxes (sortS.ps 0))
def sortSpec (f g : FuncId) : Spec := ⟨f, sortS.ps g, sortS.rs, fun x => sortRun x.1⟩
@[reducible] def clonePs (e : Ty) : List Par := [.val false (.bor (.own (.frz e)))]
@[reducible] def cloneRs (e : Ty) : List VSh := [(false, .own (.frz e))]
def okClone (e : Ty) : outs (dens (cloneRs e)) (boxes (clonePs e)) → Bool := outsOk (oks (cloneRs e)) (boxes (clonePs e))
def cloneSpec (f : FuncId) (e : Ty) : Spec := ⟨f, clonePs e, cloneRs e, fun x => Res.ok x⟩
/-- k: an element's bytes, where its range word knows fewer. -/
def cloneSpecN (k : Nat) (f : FuncId) (e : Ty) : Spec := ⟨f, clonePs e, cloneRs e, fun x => Res.need (decide ((0 + x.length) * k ≤ 2 ^ 47)) (Res.ok x)⟩
@[reducible] def cmp_isNaN_int.ps : List Par := [.val false (.frz (.int .i64))]
@[reducible] def cmp_isNaN_int.rs : List VSh := [(false, (.frz .bool))]
def cmp_isNaN_int.okOut : outs (dens cmp_isNaN_int.rs) (boxes cmp_isNaN_int.ps) → Bool := outsOk (oks cmp_isNaN_int.rs) (boxes cmp_isNaN_int.ps)
/-- cmp.isNaN[int] -/
noncomputable def R.cmp_isNaN_int (x0 : Int) : Res (Bool) :=
  Res.given (oks (cmp_isNaN_int.ps.map Par.v) x0) (Res.ok ((!(x0 == x0))))

@[reducible] def cmp_Compare_int.ps : List Par := [.val false (.frz (.int .i64)), .val false (.frz (.int .i64))]
@[reducible] def cmp_Compare_int.rs : List VSh := [(false, (.frz (.int .i64)))]
def cmp_Compare_int.okOut : outs (dens cmp_Compare_int.rs) (boxes cmp_Compare_int.ps) → Bool := outsOk (oks cmp_Compare_int.rs) (boxes cmp_Compare_int.ps)
/-- cmp.Compare[int] -/
noncomputable def R.cmp_Compare_int (x0 : Int) (y1 : Int) : Res (Int) :=
  Res.given (oks (cmp_Compare_int.ps.map Par.v) (x0, y1)) (Res.bind (R.cmp_isNaN_int x0) fun r1 => Res.bind (R.cmp_isNaN_int y1) fun r2 => Res.br r1 (Res.br r2 (Res.ok (0)) (Res.ok ((-1)))) (Res.br r2 (Res.ok (1)) (Res.br (ilt x0 y1) (Res.ok ((-1))) (Res.br (ilt y1 x0) (Res.ok (1)) (Res.ok (0))))))

@[reducible] def slices_Compare_int.ps : List Par := [.val false (.bor (.own (.frz (.int .i64)))), .val false (.bor (.own (.frz (.int .i64))))]
@[reducible] def slices_Compare_int.rs : List VSh := [(false, (.frz (.int .i64)))]
def slices_Compare_int.okOut : outs (dens slices_Compare_int.rs) (boxes slices_Compare_int.ps) → Bool := outsOk (oks slices_Compare_int.rs) (boxes slices_Compare_int.ps)
/-- slices.Compare[[]int,int] -/
noncomputable def R.slices_Compare_int (s10 : (List Int)) (s21 : (List Int)) : Res (Int) :=
  Res.given (oks (slices_Compare_int.ps.map Par.v) (s10, s21)) (Res.bind (Res.loop (α := Int) (β := (Unit ⊕ Int)) (fun x1 => Res.br (ilt x1 (s10.length : Int)) (Res.idxS (.frz (.int .i64)) s10 x1 fun e2 => Res.br (ile (s21.length : Int) x1) (Res.ok (.done (.inr 1))) (Res.idxS (.frz (.int .i64)) s21 x1 fun e3 => Res.bind (R.cmp_Compare_int e2 e3) fun r4 => Res.given (cmp_Compare_int.okOut r4) (Res.br (!(r4 == 0)) (Res.ok (.done (.inr r4))) (Res.ok (.next (IntKind.wrap .i64 (x1 + 1))))))) (Res.ok (.done (.inl ())))) fuel 0) fun x5 => Res.sum x5 (fun x6 => Res.br (ilt (s10.length : Int) (s21.length : Int)) (Res.ok ((-1))) (Res.ok (0))) (fun z7 => Res.ok (z7)))

@[reducible] def wait_Lists_Places_1.ps : List Par := [.val true (.frz (.pair (.int .i64) (.int .i64))), .val true (.frz (.pair (.int .i64) (.int .i64)))]
@[reducible] def wait_Lists_Places_1.rs : List VSh := [(false, (.frz (.int .i64)))]
def wait_Lists_Places_1.okOut : outs (dens wait_Lists_Places_1.rs) (boxes wait_Lists_Places_1.ps) → Bool := outsOk (oks wait_Lists_Places_1.rs) (boxes wait_Lists_Places_1.ps)
/-- (*rendezvous/wait.Lists).Places$1 -/
noncomputable def R.wait_Lists_Places_1 (a0 : (Int × Int)) (b1 : (Int × Int)) : Res (Int) :=
  Res.given (oks (wait_Lists_Places_1.ps.map Par.v) (a0, b1)) (Res.bind (R.slices_Compare_int [a0.1, a0.2] [b1.1, b1.2]) fun r1 => Res.given (slices_Compare_int.okOut r1) (Res.ok (r1)))

@[reducible] def wait_New.ps : List Par := []
@[reducible] def wait_New.rs : List VSh := [(false, (.box (.map 2 (.own (.frz T_wait_Waiter)))))]
def wait_New.okOut : outs (dens wait_New.rs) (boxes wait_New.ps) → Bool := outsOk (oks wait_New.rs) (boxes wait_New.ps)
/-- rendezvous/wait.New -/
noncomputable def R.wait_New  : Res ((List ((List Int) × (List T_wait_Waiter.den)))) :=
  Res.given (oks (wait_New.ps.map Par.v) ()) (Res.ok (([] : List (List Int × (List T_wait_Waiter.den)))))

@[reducible] def wait_Lists_Has_1.ps : List Par := [.val true (.frz T_wait_Waiter), .val false (.bor (.box (.frz (.int .i64))))]
@[reducible] def wait_Lists_Has_1.rs : List VSh := [(false, (.frz .bool))]
def wait_Lists_Has_1.okOut : outs (dens wait_Lists_Has_1.rs) (boxes wait_Lists_Has_1.ps) → Bool := outsOk (oks wait_Lists_Has_1.rs) (boxes wait_Lists_Has_1.ps)
/-- (*rendezvous/wait.Lists).Has$1 -/
noncomputable def R.wait_Lists_Has_1 (x0 : T_wait_Waiter.den) (a1 : Int) : Res (Bool) :=
  Res.given (oks (wait_Lists_Has_1.ps.map Par.v) (x0, a1)) (Res.ok ((x0.1 == a1)))

@[reducible] def slices_IndexFunc_waitWaiter__wait_Lists_Has_1.ps : List Par := [.val false (.bor (.own (.frz T_wait_Waiter))), .val false (.bor (.clo 21 (.box (.frz (.int .i64)))))]
@[reducible] def slices_IndexFunc_waitWaiter__wait_Lists_Has_1.rs : List VSh := [(false, (.frz (.int .i64)))]
def slices_IndexFunc_waitWaiter__wait_Lists_Has_1.okOut : outs (dens slices_IndexFunc_waitWaiter__wait_Lists_Has_1.rs) (boxes slices_IndexFunc_waitWaiter__wait_Lists_Has_1.ps) → Bool := outsOk (oks slices_IndexFunc_waitWaiter__wait_Lists_Has_1.rs) (boxes slices_IndexFunc_waitWaiter__wait_Lists_Has_1.ps)
/-- slices.IndexFunc[[]rendezvous/wait.Waiter,rendezvous/wait.Waiter] -/
noncomputable def R.slices_IndexFunc_waitWaiter__wait_Lists_Has_1 (s0 : (List T_wait_Waiter.den)) (f1 : Int) : Res (Int) :=
  Res.given (oks (slices_IndexFunc_waitWaiter__wait_Lists_Has_1.ps.map Par.v) (s0, f1)) (Res.bind (Res.loop (α := Int) (β := (Unit ⊕ Int)) (fun x1 => Res.br (ilt x1 (s0.length : Int)) (Res.idxS (.frz T_wait_Waiter) s0 x1 fun e2 => Res.bind (R.wait_Lists_Has_1 e2 f1) fun r3 => Res.br r3 (Res.ok (.done (.inr x1))) (Res.ok (.next (IntKind.wrap .i64 (x1 + 1))))) (Res.ok (.done (.inl ())))) fuel 0) fun x4 => Res.sum x4 (fun x5 => Res.ok ((-1))) (fun z6 => Res.ok (z6)))

@[reducible] def slices_ContainsFunc_waitWaiter__wait_Lists_Has_1.ps : List Par := [.val false (.bor (.own (.frz T_wait_Waiter))), .val false (.bor (.clo 21 (.box (.frz (.int .i64)))))]
@[reducible] def slices_ContainsFunc_waitWaiter__wait_Lists_Has_1.rs : List VSh := [(false, (.frz .bool))]
def slices_ContainsFunc_waitWaiter__wait_Lists_Has_1.okOut : outs (dens slices_ContainsFunc_waitWaiter__wait_Lists_Has_1.rs) (boxes slices_ContainsFunc_waitWaiter__wait_Lists_Has_1.ps) → Bool := outsOk (oks slices_ContainsFunc_waitWaiter__wait_Lists_Has_1.rs) (boxes slices_ContainsFunc_waitWaiter__wait_Lists_Has_1.ps)
/-- slices.ContainsFunc[[]rendezvous/wait.Waiter,rendezvous/wait.Waiter] -/
noncomputable def R.slices_ContainsFunc_waitWaiter__wait_Lists_Has_1 (s0 : (List T_wait_Waiter.den)) (f1 : Int) : Res (Bool) :=
  Res.given (oks (slices_ContainsFunc_waitWaiter__wait_Lists_Has_1.ps.map Par.v) (s0, f1)) (Res.bind (R.slices_IndexFunc_waitWaiter__wait_Lists_Has_1 s0 f1) fun r1 => Res.given (slices_IndexFunc_waitWaiter__wait_Lists_Has_1.okOut r1) (Res.ok ((ile 0 r1))))

@[reducible] def wait_Lists_Has.ps : List Par := [.obj (.box (.map 2 (.own (.frz T_wait_Waiter)))), .val false (.frz (.int .i64))]
@[reducible] def wait_Lists_Has.rs : List VSh := [(false, (.frz .bool))]
def wait_Lists_Has.okOut : outs (dens wait_Lists_Has.rs) (boxes wait_Lists_Has.ps) → Bool := outsOk (oks wait_Lists_Has.rs) (boxes wait_Lists_Has.ps)
/-- (*rendezvous/wait.Lists).Has -/
noncomputable def R.wait_Lists_Has (l0 : (List ((List Int) × (List T_wait_Waiter.den)))) (agent1 : Int) : Res (Bool × (List ((List Int) × (List T_wait_Waiter.den)))) :=
  Res.given (oks (wait_Lists_Has.ps.map Par.v) (l0, agent1)) (Res.order (γ := (List Int × (List T_wait_Waiter.den))) l0 fun p3 => Res.bind (Res.each (γ := (List Int × (List T_wait_Waiter.den))) (α := Unit) (β := Bool) (fun e2 left4 x1 => Res.bind (R.slices_ContainsFunc_waitWaiter__wait_Lists_Has_1 e2.2 agent1) fun r6 => Res.br r6 (Res.ok (.done (true))) (Res.ok (.next (())))) p3 ()) fun b5 => match b5 with | .next x1 => Res.ok ((false, l0)) | .done y7 => Res.ok ((y7, l0)))

@[reducible] def wait_Lists_Add.ps : List Par := [.obj (.box (.map 2 (.own (.frz T_wait_Waiter)))), .val false (.frz (.int .i64)), .val false (.frz (.int .i64)), .val true (.frz T_wait_Waiter)]
@[reducible] def wait_Lists_Add.rs : List VSh := [(false, (.frz (.int .i64)))]
def wait_Lists_Add.okOut : outs (dens wait_Lists_Add.rs) (boxes wait_Lists_Add.ps) → Bool := outsOk (oks wait_Lists_Add.rs) (boxes wait_Lists_Add.ps)
/-- (*rendezvous/wait.Lists).Add -/
noncomputable def R.wait_Lists_Add (l0 : (List ((List Int) × (List T_wait_Waiter.den)))) (block1 : Int) (at2 : Int) (w3 : T_wait_Waiter.den) : Res (Int × (List ((List Int) × (List T_wait_Waiter.den)))) :=
  Res.given (oks (wait_Lists_Add.ps.map Par.v) (l0, (block1, (at2, w3)))) (Res.bind (α := Bool) (Res.br (ilt block1 0) (Res.ok (true)) (Res.br (ilt at2 0) (Res.ok (true)) (Res.br (ilt w3.1 0) (Res.ok (true)) (Res.br (ilt w3.2.1 0) (Res.ok (true)) (Res.br w3.2.2 (Res.ok ((!(w3.2.1 == 0)))) (Res.ok (false))))))) fun x1 => Res.br x1 (Res.ok ((1, l0))) (Res.bind (R.wait_Lists_Has l0 w3.1) fun r2 => Res.given (wait_Lists_Has.okOut r2) (Res.br r2.1 (Res.ok ((10, r2.2))) (Res.look (γ := (List T_wait_Waiter.den)) r2.2 [block1, at2] (fun i3 e4 => Res.need (decide ((e4.length + [w3].length) * 24 ≤ 2 ^ 47)) (Res.ok ((0, (List.modify r2.2 i3 fun kv => (kv.1, (e4 ++ [w3]))))))) (Res.need (decide ([w3].length * 24 ≤ 2 ^ 47)) (Res.ok ((0, (List.modify (r2.2 ++ [([block1, at2], ([] : List T_wait_Waiter.den))]) r2.2.length fun kv => (kv.1, [w3]))))))))))

@[reducible] def wait_Lists_set.ps : List Par := [.obj (.box (.map 2 (.own (.frz T_wait_Waiter)))), .val true (.frz (.pair (.int .i64) (.int .i64))), .val false (.own (.frz T_wait_Waiter))]
@[reducible] def wait_Lists_set.rs : List VSh := []
def wait_Lists_set.okOut : outs (dens wait_Lists_set.rs) (boxes wait_Lists_set.ps) → Bool := outsOk (oks wait_Lists_set.rs) (boxes wait_Lists_set.ps)
/-- (*rendezvous/wait.Lists).set -/
noncomputable def R.wait_Lists_set (l0 : (List ((List Int) × (List T_wait_Waiter.den)))) (k1 : (Int × Int)) (w2 : (List T_wait_Waiter.den)) : Res (Unit × (List ((List Int) × (List T_wait_Waiter.den)))) :=
  Res.given (oks (wait_Lists_set.ps.map Par.v) (l0, (k1, w2))) (Res.br ((w2.length : Int) == 0) (Res.look (γ := (List T_wait_Waiter.den)) l0 [k1.1, k1.2] (fun i1 e2 => Res.ok (((), (List.eraseIdx l0 i1)))) (Res.ok (((), l0)))) (Res.look (γ := (List T_wait_Waiter.den)) l0 [k1.1, k1.2] (fun i3 e4 => Res.ok (((), (List.modify l0 i3 fun kv => (kv.1, w2))))) (Res.ok (((), (l0 ++ [([k1.1, k1.2], w2)]))))))

@[reducible] def wait_Lists_Wake.ps : List Par := [.obj (.box (.map 2 (.own (.frz T_wait_Waiter)))), .val false (.frz (.int .i64)), .val false (.frz (.int .i64)), .val false (.frz (.int .i64)), .val false (.frz .bool)]
@[reducible] def wait_Lists_Wake.rs : List VSh := [(false, (.own (.frz (.int .i64))))]
def wait_Lists_Wake.okOut : outs (dens wait_Lists_Wake.rs) (boxes wait_Lists_Wake.ps) → Bool := outsOk (oks wait_Lists_Wake.rs) (boxes wait_Lists_Wake.ps)
/-- (*rendezvous/wait.Lists).Wake -/
noncomputable def R.wait_Lists_Wake (l0 : (List ((List Int) × (List T_wait_Waiter.den)))) (block1 : Int) (at2 : Int) (n3 : Int) (all4 : Bool) : Res ((List Int) × (List ((List Int) × (List T_wait_Waiter.den)))) :=
  Res.given (oks (wait_Lists_Wake.ps.map Par.v) (l0, (block1, (at2, (n3, all4))))) (Res.look (γ := (List T_wait_Waiter.den)) l0 [block1, at2] (fun i1 e2 => Res.bind (α := Int) (Res.bind (α := Bool) (Res.br all4 (Res.ok (true)) (Res.ok ((ilt (e2.length : Int) n3)))) fun x3 => Res.br x3 (Res.ok ((e2.length : Int))) (Res.ok (n3))) fun n4 => Res.need (ile 0 (maxI n4 0) && ile (maxI n4 0) e2.length) (Res.bind (Res.loop (α := ((List Int) × Int)) (β := (List Int)) (fun out5 => Res.br (ilt out5.2 ((Int.toNat (maxI n4 0)) : Int)) (Res.need (ile 0 out5.2 && ilt out5.2 (Int.toNat (maxI n4 0))) (Res.idx T_wait_Waiter e2 (0 + Int.toNat out5.2) fun e6 => Res.need (decide ((out5.1.length + [e6.1].length) * 8 ≤ 2 ^ 47)) (Res.ok (.next (((out5.1 ++ [e6.1]), IntKind.wrap .i64 (out5.2 + 1))))))) (Res.ok (.done (out5.1)))) fuel (([] : List Int), 0)) fun out7 => Res.need (ile 0 (maxI n4 0) && ile (maxI n4 0) e2.length) (Res.bind (Res.need (decide ((0 + (List.take (e2.length - (Int.toNat (maxI n4 0))) (List.drop (0 + (Int.toNat (maxI n4 0))) e2)).length) * 24 ≤ 2 ^ 47)) (Res.ok (List.take (e2.length - (Int.toNat (maxI n4 0))) (List.drop (0 + (Int.toNat (maxI n4 0))) e2)))) fun r8 => Res.given (okClone T_wait_Waiter r8) (Res.bind (R.wait_Lists_set (List.modify l0 i1 fun kv => (kv.1, e2)) (block1, at2) r8) fun r9 => Res.given (wait_Lists_set.okOut r9) (Res.ok ((out7, r9.2))))))) (Res.bind (α := Int) (Res.bind (α := Bool) (Res.br all4 (Res.ok (true)) (Res.ok ((ilt 0 n3)))) fun x10 => Res.br x10 (Res.ok (0)) (Res.ok (n3))) fun n11 => Res.need (ile 0 (maxI n11 0) && ile (maxI n11 0) ([] : List Unit).length) (Res.bind (Res.loop (α := ((List Int) × Int)) (β := (List Int)) (fun out12 => Res.br (ilt out12.2 0) (Res.stuck) (Res.ok (.done (out12.1)))) fuel (([] : List Int), 0)) fun out13 => Res.need (ile 0 (maxI n11 0) && ile (maxI n11 0) ([] : List Unit).length) (Res.bind (Res.need (decide ((0 + ([] : List T_wait_Waiter.den).length) * 24 ≤ 2 ^ 47)) (Res.ok ([] : List T_wait_Waiter.den))) fun r14 => Res.given (okClone T_wait_Waiter r14) (Res.bind (R.wait_Lists_set l0 (block1, at2) r14) fun r15 => Res.given (wait_Lists_set.okOut r15) (Res.ok ((out13, r15.2))))))))

@[reducible] def wait_Lists_Places.ps : List Par := [.obj (.box (.map 2 (.own (.frz T_wait_Waiter))))]
@[reducible] def wait_Lists_Places.rs : List VSh := [(false, (.own (.frz (.pair (.int .i64) (.int .i64)))))]
def wait_Lists_Places.okOut : outs (dens wait_Lists_Places.rs) (boxes wait_Lists_Places.ps) → Bool := outsOk (oks wait_Lists_Places.rs) (boxes wait_Lists_Places.ps)
/-- (*rendezvous/wait.Lists).Places -/
noncomputable def R.wait_Lists_Places (l0 : (List ((List Int) × (List T_wait_Waiter.den)))) : Res ((List (Int × Int)) × (List ((List Int) × (List T_wait_Waiter.den)))) :=
  Res.given (oks (wait_Lists_Places.ps.map Par.v) l0) (Res.order (γ := (List Int × (List T_wait_Waiter.den))) l0 fun p3 => Res.bind (Res.each (γ := (List Int × (List T_wait_Waiter.den))) (α := (List (Int × Int))) (β := Empty) (fun e2 left4 out1 => Res.need (decide ((out1.length + [(List.getD e2.1 0 0, List.getD e2.1 1 0)].length) * 16 ≤ 2 ^ 47)) (Res.ok (.next ((out1 ++ [(List.getD e2.1 0 0, List.getD e2.1 1 0)]))))) p3 ([] : List (Int × Int))) fun b5 => match b5 with | .next out1 => Res.bind (sortRun out1) fun r6 => Res.given (sortS.okOut r6) (Res.ok ((r6.2, l0))) | .done y7 => Res.stuck)

@[reducible] def wait_Lists_Expire.ps : List Par := [.obj (.box (.map 2 (.own (.frz T_wait_Waiter)))), .val false (.frz (.int .i64))]
@[reducible] def wait_Lists_Expire.rs : List VSh := [(false, (.own (.frz (.int .i64))))]
def wait_Lists_Expire.okOut : outs (dens wait_Lists_Expire.rs) (boxes wait_Lists_Expire.ps) → Bool := outsOk (oks wait_Lists_Expire.rs) (boxes wait_Lists_Expire.ps)
/-- (*rendezvous/wait.Lists).Expire -/
noncomputable def R.wait_Lists_Expire (l0 : (List ((List Int) × (List T_wait_Waiter.den)))) (now1 : Int) : Res ((List Int) × (List ((List Int) × (List T_wait_Waiter.den)))) :=
  Res.given (oks (wait_Lists_Expire.ps.map Par.v) (l0, now1)) (Res.bind (R.wait_Lists_Places l0) fun r1 => Res.given (wait_Lists_Places.okOut r1) (Res.bind (Res.loop (α := ((List Int) × (Int × (List ((List Int) × (List T_wait_Waiter.den)))))) (β := ((List Int) × (List ((List Int) × (List T_wait_Waiter.den))))) (fun out2 => Res.br (ilt out2.2.1 (r1.1.length : Int)) (Res.need (ile 0 out2.2.1 && ilt out2.2.1 r1.1.length) (Res.idx (.pair (.int .i64) (.int .i64)) r1.1 (0 + Int.toNat out2.2.1) fun e3 => Res.look (γ := (List T_wait_Waiter.den)) out2.2.2 [e3.1, e3.2] (fun i4 e5 => Res.bind (Res.loop (α := ((List Int) × ((List T_wait_Waiter.den) × Int))) (β := ((List Int) × (List T_wait_Waiter.den))) (fun out6 => Res.br (ilt out6.2.2 (e5.length : Int)) (Res.need (ile 0 out6.2.2 && ilt out6.2.2 e5.length) (Res.idx T_wait_Waiter e5 (0 + Int.toNat out6.2.2) fun e7 => Res.bind (α := Bool) (Res.br e7.2.2 (Res.ok (true)) (Res.ok ((ilt now1 e7.2.1)))) fun x8 => Res.br x8 (Res.need (decide ((out6.2.1.length + [e7].length) * 24 ≤ 2 ^ 47)) (Res.ok (.next ((out6.1, ((out6.2.1 ++ [e7]), IntKind.wrap .i64 (out6.2.2 + 1))))))) (Res.need (decide ((out6.1.length + [e7.1].length) * 8 ≤ 2 ^ 47)) (Res.ok (.next (((out6.1 ++ [e7.1]), (out6.2.1, IntKind.wrap .i64 (out6.2.2 + 1))))))))) (Res.ok (.done ((out6.1, out6.2.1))))) fuel (out2.1, (([] : List T_wait_Waiter.den), 0))) fun out9 => Res.bind (R.wait_Lists_set (List.modify out2.2.2 i4 fun kv => (kv.1, e5)) e3 out9.2) fun r10 => Res.given (wait_Lists_set.okOut r10) (Res.ok (.next ((out9.1, (IntKind.wrap .i64 (out2.2.1 + 1), r10.2)))))) (Res.bind (Res.loop (α := ((List Int) × ((List T_wait_Waiter.den) × Int))) (β := ((List Int) × (List T_wait_Waiter.den))) (fun out11 => Res.br (ilt out11.2.2 0) (Res.stuck) (Res.ok (.done ((out11.1, out11.2.1))))) fuel (out2.1, (([] : List T_wait_Waiter.den), 0))) fun out12 => Res.bind (R.wait_Lists_set out2.2.2 e3 out12.2) fun r13 => Res.given (wait_Lists_set.okOut r13) (Res.ok (.next ((out12.1, (IntKind.wrap .i64 (out2.2.1 + 1), r13.2)))))))) (Res.ok (.done ((out2.1, out2.2.2))))) fuel (([] : List Int), (0, r1.2))) fun out14 => Res.ok (out14)))

@[reducible] def renref_Ints.ps : List Par := [.val false (.bor (.own (.frz (.int .i64)))), .val false (.bor (.own (.frz (.int .i64))))]
@[reducible] def renref_Ints.rs : List VSh := [(false, (.frz .bool))]
def renref_Ints.okOut : outs (dens renref_Ints.rs) (boxes renref_Ints.ps) → Bool := outsOk (oks renref_Ints.rs) (boxes renref_Ints.ps)
/-- rendezvous/renref.Ints -/
noncomputable def R.renref_Ints (a0 : (List Int)) (b1 : (List Int)) : Res (Bool) :=
  Res.given (oks (renref_Ints.ps.map Par.v) (a0, b1)) (Res.br (!((a0.length : Int) == (b1.length : Int))) (Res.ok (false)) (Res.bind (Res.loop (α := Int) (β := (Unit ⊕ Bool)) (fun i1 => Res.br (ilt i1 (a0.length : Int)) (Res.idxS (.frz (.int .i64)) a0 i1 fun e2 => Res.idxS (.frz (.int .i64)) b1 i1 fun e3 => Res.br (!(e2 == e3)) (Res.ok (.done (.inr false))) (Res.ok (.next (IntKind.wrap .i64 (i1 + 1))))) (Res.ok (.done (.inl ())))) fuel 0) fun x4 => Res.sum x4 (fun x5 => Res.ok (true)) (fun z6 => Res.ok (z6))))

@[reducible] def renlaw22_first.ps : List Par := []
@[reducible] def renlaw22_first.rs : List VSh := [(false, (.frz .bool))]
def renlaw22_first.okOut : outs (dens renlaw22_first.rs) (boxes renlaw22_first.ps) → Bool := outsOk (oks renlaw22_first.rs) (boxes renlaw22_first.ps)
/-- rendezvous/renlaw22.first -/
noncomputable def R.renlaw22_first  : Res (Bool) :=
  Res.given (oks (renlaw22_first.ps.map Par.v) ()) (Res.bind (R.wait_New) fun r1 => Res.given (wait_New.okOut r1) (Res.bind (R.wait_Lists_Add r1 0 4 (1, (0, true))) fun r2 => Res.given (wait_Lists_Add.okOut r2) (Res.bind (R.wait_Lists_Add r2.2 0 4 (2, (5, false))) fun r3 => Res.given (wait_Lists_Add.okOut r3) (Res.bind (R.wait_Lists_Add r3.2 0 8 (1, (0, false))) fun r4 => Res.given (wait_Lists_Add.okOut r4) (Res.bind (R.wait_Lists_Wake r4.2 0 4 1 false) fun r5 => Res.given (wait_Lists_Wake.okOut r5) (Res.bind (R.wait_Lists_Expire r5.2 4) fun r6 => Res.given (wait_Lists_Expire.okOut r6) (Res.bind (R.wait_Lists_Expire r6.2 5) fun r7 => Res.given (wait_Lists_Expire.okOut r7) (Res.br (r2.1 == 0) (Res.br (r3.1 == 0) (Res.br (r4.1 == 10) (Res.bind (R.renref_Ints r5.1 [1]) fun r8 => Res.br r8 (Res.br ((r6.1.length : Int) == 0) (Res.bind (R.renref_Ints r7.1 [2]) fun r9 => Res.ok (r9)) (Res.ok (false))) (Res.ok (false))) (Res.ok (false))) (Res.ok (false))) (Res.ok (false))))))))))

@[reducible] def renlaw22_WaitFair.ps : List Par := [.val false (.bor (.own (.frz (.int .i64)))), .val false (.bor (.own (.frz .bool))), .val false (.frz (.int .i64))]
@[reducible] def renlaw22_WaitFair.rs : List VSh := [(false, (.frz .bool))]
def renlaw22_WaitFair.okOut : outs (dens renlaw22_WaitFair.rs) (boxes renlaw22_WaitFair.ps) → Bool := outsOk (oks renlaw22_WaitFair.rs) (boxes renlaw22_WaitFair.ps)
/-- rendezvous/renlaw22.WaitFair -/
noncomputable def R.renlaw22_WaitFair (who0 : (List Int)) (place1 : (List Bool)) (n2 : Int) : Res (Bool) :=
  Res.given (oks (renlaw22_WaitFair.ps.map Par.v) (who0, (place1, n2))) (Res.bind (R.renlaw22_first) fun r1 => Res.br (!r1) (Res.ok (false)) (Res.bind (R.wait_New) fun r2 => Res.given (wait_New.okOut r2) (Res.bind (α := Bool) (Res.br (ilt 60 (who0.length : Int)) (Res.ok (true)) (Res.ok ((ilt (place1.length : Int) (who0.length : Int))))) fun x3 => Res.br x3 (Res.bind (R.renlaw22_first) fun r4 => Res.ok (r4)) (Res.bind (Res.loop (α := ((List Int) × ((List Int) × (Int × (List ((List Int) × (List T_wait_Waiter.den))))))) (β := ((List Int) × ((List Int) × (List ((List Int) × (List T_wait_Waiter.den)))))) (fun a5 => Res.br (ilt a5.2.2.1 (who0.length : Int)) (Res.bind (α := Int) (Res.idxS (.frz .bool) place1 a5.2.2.1 fun e6 => Res.br e6 (Res.ok (4)) (Res.ok (0))) fun at7 => Res.idxS (.frz (.int .i64)) who0 a5.2.2.1 fun e8 => Res.bind (R.wait_Lists_Add a5.2.2.2 0 at7 (e8, (0, true))) fun r9 => Res.given (wait_Lists_Add.okOut r9) (Res.br (!(r9.1 == 0)) (Res.ok (.next ((a5.1, (a5.2.1, (IntKind.wrap .i64 (a5.2.2.1 + 1), r9.2)))))) (Res.idxS (.frz .bool) place1 a5.2.2.1 fun e10 => Res.br e10 (Res.idxS (.frz (.int .i64)) who0 a5.2.2.1 fun e11 => Res.need (decide ((a5.2.1.length + [e11].length) * 8 ≤ 2 ^ 47)) (Res.ok (.next ((a5.1, ((a5.2.1 ++ [e11]), (IntKind.wrap .i64 (a5.2.2.1 + 1), r9.2))))))) (Res.idxS (.frz (.int .i64)) who0 a5.2.2.1 fun e12 => Res.need (decide ((a5.1.length + [e12].length) * 8 ≤ 2 ^ 47)) (Res.ok (.next (((a5.1 ++ [e12]), (a5.2.1, (IntKind.wrap .i64 (a5.2.2.1 + 1), r9.2)))))))))) (Res.ok (.done ((a5.1, (a5.2.1, a5.2.2.2)))))) fuel (([] : List Int), (([] : List Int), (0, r2)))) fun a13 => Res.bind (R.wait_Lists_Wake a13.2.2 0 0 n2 false) fun r14 => Res.given (wait_Lists_Wake.okOut r14) (Res.bind (R.wait_Lists_Wake r14.2 0 0 0 true) fun r15 => Res.given (wait_Lists_Wake.okOut r15) (Res.bind (R.wait_Lists_Wake r15.2 0 4 0 true) fun r16 => Res.given (wait_Lists_Wake.okOut r16) (Res.bind (R.renlaw22_first) fun r17 => Res.br r17 (Res.need (decide ((([] : List Int).length + r14.1.length) * 8 ≤ 2 ^ 47)) (Res.need (decide (((([] : List Int) ++ r14.1).length + r15.1.length) * 8 ≤ 2 ^ 47)) (Res.bind (R.renref_Ints ((([] : List Int) ++ r14.1) ++ r15.1) a13.1) fun r18 => Res.br r18 (Res.bind (R.renref_Ints r16.1 a13.2.1) fun r19 => Res.br r19 (Res.br ((r14.1.length : Int) == (minI (maxI n2 0) (a13.1.length : Int))) (Res.bind (R.wait_Lists_Places r16.2) fun r20 => Res.given (wait_Lists_Places.okOut r20) (Res.ok (((r20.1.length : Int) == 0)))) (Res.ok (false))) (Res.ok (false))) (Res.ok (false))))) (Res.ok (false)))))))))

@[reducible] def wait_Lists_At.ps : List Par := [.obj (.box (.map 2 (.own (.frz T_wait_Waiter)))), .val false (.frz (.int .i64)), .val false (.frz (.int .i64))]
@[reducible] def wait_Lists_At.rs : List VSh := [(false, (.own (.frz T_wait_Waiter)))]
def wait_Lists_At.okOut : outs (dens wait_Lists_At.rs) (boxes wait_Lists_At.ps) → Bool := outsOk (oks wait_Lists_At.rs) (boxes wait_Lists_At.ps)
/-- (*rendezvous/wait.Lists).At -/
noncomputable def R.wait_Lists_At (l0 : (List ((List Int) × (List T_wait_Waiter.den)))) (block1 : Int) (at2 : Int) : Res ((List T_wait_Waiter.den) × (List ((List Int) × (List T_wait_Waiter.den)))) :=
  Res.given (oks (wait_Lists_At.ps.map Par.v) (l0, (block1, at2))) (Res.look (γ := (List T_wait_Waiter.den)) l0 [block1, at2] (fun i1 e2 => Res.bind (Res.need (decide ((0 + e2.length) * 24 ≤ 2 ^ 47)) (Res.ok e2)) fun r3 => Res.given (okClone T_wait_Waiter r3) (Res.ok ((r3, (List.modify l0 i1 fun kv => (kv.1, e2)))))) (Res.bind (Res.need (decide ((0 + ([] : List T_wait_Waiter.den).length) * 24 ≤ 2 ^ 47)) (Res.ok ([] : List T_wait_Waiter.den))) fun r4 => Res.given (okClone T_wait_Waiter r4) (Res.ok ((r4, l0)))))

@[reducible] def renlaw22_WaitOnce.ps : List Par := [.val false (.bor (.own (.frz T_renlaw22_Op))), .val false (.frz (.int .i64)), .val false (.frz (.int .i64)), .val false (.frz (.int .i64))]
@[reducible] def renlaw22_WaitOnce.rs : List VSh := [(false, (.frz .bool))]
def renlaw22_WaitOnce.okOut : outs (dens renlaw22_WaitOnce.rs) (boxes renlaw22_WaitOnce.ps) → Bool := outsOk (oks renlaw22_WaitOnce.rs) (boxes renlaw22_WaitOnce.ps)
/-- rendezvous/renlaw22.WaitOnce -/
noncomputable def R.renlaw22_WaitOnce (l0 : (List T_renlaw22_Op.den)) (blk1 : Int) (at2 : Int) (n3 : Int) : Res (Bool) :=
  Res.given (oks (renlaw22_WaitOnce.ps.map Par.v) (l0, (blk1, (at2, n3)))) (Res.bind (R.renlaw22_first) fun r1 => Res.br (!r1) (Res.ok (false)) (Res.bind (R.wait_New) fun r2 => Res.given (wait_New.okOut r2) (Res.bind (α := Bool) (Res.ok ((ilt 200 (l0.length : Int)))) fun x3 => Res.br x3 (Res.bind (R.renlaw22_first) fun r4 => Res.ok (r4)) (Res.bind (Res.loop (α := (Int × (List ((List Int) × (List T_wait_Waiter.den))))) (β := ((List ((List Int) × (List T_wait_Waiter.den))) ⊕ Bool)) (fun i5 => Res.br (ilt i5.1 (l0.length : Int)) (Res.idxS (.frz T_renlaw22_Op) l0 i5.1 fun e6 => Res.br (e6.1 == 0) (Res.idxS (.frz T_renlaw22_Op) l0 i5.1 fun e7 => Res.bind (R.wait_Lists_Has i5.2 e7.2.2.2.2.1.1) fun r8 => Res.given (wait_Lists_Has.okOut r8) (Res.bind (α := (Bool × (List ((List Int) × (List T_wait_Waiter.den))))) (Res.idxS (.frz T_renlaw22_Op) l0 i5.1 fun e9 => Res.idxS (.frz T_renlaw22_Op) l0 i5.1 fun e10 => Res.idxS (.frz T_renlaw22_Op) l0 i5.1 fun e11 => Res.bind (R.wait_Lists_Add r8.2 e9.2.1 e10.2.2.1 e11.2.2.2.2.1) fun r12 => Res.given (wait_Lists_Add.okOut r12) (Res.br (r12.1 == 0) (Res.br r8.1 (Res.ok ((true, r12.2))) (Res.idxS (.frz T_renlaw22_Op) l0 i5.1 fun e13 => Res.bind (R.wait_Lists_Has r12.2 e13.2.2.2.2.1.1) fun r14 => Res.given (wait_Lists_Has.okOut r14) (Res.ok (((!r14.1), r14.2))))) (Res.ok ((false, r12.2))))) fun x15 => Res.br x15.1 (Res.ok (.done (.inr false))) (Res.ok (.next ((IntKind.wrap .i64 (i5.1 + 1), x15.2)))))) (Res.br (e6.1 == 1) (Res.idxS (.frz T_renlaw22_Op) l0 i5.1 fun e16 => Res.idxS (.frz T_renlaw22_Op) l0 i5.1 fun e17 => Res.idxS (.frz T_renlaw22_Op) l0 i5.1 fun e18 => Res.idxS (.frz T_renlaw22_Op) l0 i5.1 fun e19 => Res.bind (R.wait_Lists_Wake i5.2 e16.2.1 e17.2.2.1 e18.2.2.2.1 e19.2.2.2.2.2) fun r20 => Res.given (wait_Lists_Wake.okOut r20) (Res.ok (.next ((IntKind.wrap .i64 (i5.1 + 1), r20.2))))) (Res.ok (.next ((IntKind.wrap .i64 (i5.1 + 1), i5.2)))))) (Res.ok (.done (.inl i5.2)))) fuel (0, r2)) fun x21 => Res.sum x21 (fun x22 => Res.bind (R.wait_Lists_At x22 blk1 at2) fun r24 => Res.given (wait_Lists_At.okOut r24) (Res.bind (R.wait_Lists_Wake r24.2 blk1 at2 n3 false) fun r25 => Res.given (wait_Lists_Wake.okOut r25) (Res.bind (R.wait_Lists_At r25.2 blk1 at2) fun r26 => Res.given (wait_Lists_At.okOut r26) (Res.bind (α := Bool) (Res.br (!((r25.1.length : Int) == (minI (maxI n3 0) (r24.1.length : Int)))) (Res.ok (true)) (Res.ok ((!((r26.1.length : Int) == (IntKind.wrap .i64 ((r24.1.length : Int) - (r25.1.length : Int)))))))) fun x27 => Res.br x27 (Res.ok (false)) (Res.bind (Res.loop (α := (Int × (List ((List Int) × (List T_wait_Waiter.den))))) (β := (Unit ⊕ Bool)) (fun i28 => Res.br (ilt i28.1 (r24.1.length : Int)) (Res.bind (α := (Bool × (List ((List Int) × (List T_wait_Waiter.den))))) (Res.br (ilt i28.1 (r25.1.length : Int)) (Res.need (ile 0 i28.1 && ilt i28.1 r25.1.length) (Res.idx (.int .i64) r25.1 (0 + Int.toNat i28.1) fun e29 => Res.need (ile 0 i28.1 && ilt i28.1 r24.1.length) (Res.idx T_wait_Waiter r24.1 (0 + Int.toNat i28.1) fun e30 => Res.br (!(e29 == e30.1)) (Res.ok ((true, i28.2))) (Res.need (ile 0 i28.1 && ilt i28.1 r25.1.length) (Res.idx (.int .i64) r25.1 (0 + Int.toNat i28.1) fun e31 => Res.bind (R.wait_Lists_Has i28.2 e31) fun r32 => Res.given (wait_Lists_Has.okOut r32) (Res.br r32.1 (Res.ok ((true, r32.2))) (Res.br (ile (r25.1.length : Int) i28.1) (Res.need (ile 0 (IntKind.wrap .i64 (i28.1 - (r25.1.length : Int))) && ilt (IntKind.wrap .i64 (i28.1 - (r25.1.length : Int))) r26.1.length) (Res.idx T_wait_Waiter r26.1 (0 + Int.toNat (IntKind.wrap .i64 (i28.1 - (r25.1.length : Int)))) fun e33 => Res.need (ile 0 i28.1 && ilt i28.1 r24.1.length) (Res.idx T_wait_Waiter r24.1 (0 + Int.toNat i28.1) fun e34 => Res.br (!((e33.1 == e34.1) && ((e33.2.1 == e34.2.1) && ((e33.2.2 == e34.2.2) && true)))) (Res.ok ((true, r32.2))) (Res.need (ile 0 i28.1 && ilt i28.1 r24.1.length) (Res.idx T_wait_Waiter r24.1 (0 + Int.toNat i28.1) fun e35 => Res.bind (R.wait_Lists_Has r32.2 e35.1) fun r36 => Res.given (wait_Lists_Has.okOut r36) (Res.ok (((!r36.1), r36.2)))))))) (Res.ok ((false, r32.2)))))))))) (Res.br (ile (r25.1.length : Int) i28.1) (Res.need (ile 0 (IntKind.wrap .i64 (i28.1 - (r25.1.length : Int))) && ilt (IntKind.wrap .i64 (i28.1 - (r25.1.length : Int))) r26.1.length) (Res.idx T_wait_Waiter r26.1 (0 + Int.toNat (IntKind.wrap .i64 (i28.1 - (r25.1.length : Int)))) fun e37 => Res.need (ile 0 i28.1 && ilt i28.1 r24.1.length) (Res.idx T_wait_Waiter r24.1 (0 + Int.toNat i28.1) fun e38 => Res.br (!((e37.1 == e38.1) && ((e37.2.1 == e38.2.1) && ((e37.2.2 == e38.2.2) && true)))) (Res.ok ((true, i28.2))) (Res.need (ile 0 i28.1 && ilt i28.1 r24.1.length) (Res.idx T_wait_Waiter r24.1 (0 + Int.toNat i28.1) fun e39 => Res.bind (R.wait_Lists_Has i28.2 e39.1) fun r40 => Res.given (wait_Lists_Has.okOut r40) (Res.ok (((!r40.1), r40.2)))))))) (Res.ok ((false, i28.2))))) fun x41 => Res.br x41.1 (Res.ok (.done (.inr false))) (Res.ok (.next ((IntKind.wrap .i64 (i28.1 + 1), x41.2))))) (Res.ok (.done (.inl ())))) fuel (0, r26.2)) fun x42 => Res.sum x42 (fun x43 => Res.bind (R.renlaw22_first) fun r45 => Res.ok (r45)) (fun z44 => Res.ok (z44))))))) (fun z23 => Res.ok (z23))))))

@[reducible] def renlaw22_WaitTimes.ps : List Par := [.val false (.bor (.own (.frz T_renlaw22_Op))), .val false (.frz (.int .i64)), .val false (.frz (.int .i64))]
@[reducible] def renlaw22_WaitTimes.rs : List VSh := [(false, (.frz .bool))]
def renlaw22_WaitTimes.okOut : outs (dens renlaw22_WaitTimes.rs) (boxes renlaw22_WaitTimes.ps) → Bool := outsOk (oks renlaw22_WaitTimes.rs) (boxes renlaw22_WaitTimes.ps)
/-- rendezvous/renlaw22.WaitTimes -/
noncomputable def R.renlaw22_WaitTimes (l0 : (List T_renlaw22_Op.den)) (now1 : Int) (later2 : Int) : Res (Bool) :=
  Res.given (oks (renlaw22_WaitTimes.ps.map Par.v) (l0, (now1, later2))) (Res.bind (R.renlaw22_first) fun r1 => Res.br (!r1) (Res.ok (false)) (Res.bind (R.wait_New) fun r2 => Res.given (wait_New.okOut r2) (Res.bind (α := Bool) (Res.ok ((ilt 200 (l0.length : Int)))) fun x3 => Res.br x3 (Res.bind (R.renlaw22_first) fun r4 => Res.ok (r4)) (Res.bind (Res.loop (α := (Int × (List ((List Int) × (List T_wait_Waiter.den))))) (β := (List ((List Int) × (List T_wait_Waiter.den)))) (fun i5 => Res.br (ilt i5.1 (l0.length : Int)) (Res.idxS (.frz T_renlaw22_Op) l0 i5.1 fun e6 => Res.idxS (.frz T_renlaw22_Op) l0 i5.1 fun e7 => Res.idxS (.frz T_renlaw22_Op) l0 i5.1 fun e8 => Res.bind (R.wait_Lists_Add i5.2 e6.2.1 e7.2.2.1 e8.2.2.2.2.1) fun r9 => Res.given (wait_Lists_Add.okOut r9) (Res.ok (.next ((IntKind.wrap .i64 (i5.1 + 1), r9.2))))) (Res.ok (.done (i5.2)))) fuel (0, r2)) fun x10 => Res.bind (R.wait_Lists_Places x10) fun r11 => Res.given (wait_Lists_Places.okOut r11) (Res.bind (Res.loop (α := (Int × (Int × (List ((List Int) × (List T_wait_Waiter.den)))))) (β := (Int × (List ((List Int) × (List T_wait_Waiter.den))))) (fun n12 => Res.br (ilt n12.2.1 (r11.1.length : Int)) (Res.need (ile 0 n12.2.1 && ilt n12.2.1 r11.1.length) (Res.idx (.pair (.int .i64) (.int .i64)) r11.1 (0 + Int.toNat n12.2.1) fun e13 => Res.need (ile 0 n12.2.1 && ilt n12.2.1 r11.1.length) (Res.idx (.pair (.int .i64) (.int .i64)) r11.1 (0 + Int.toNat n12.2.1) fun e14 => Res.bind (R.wait_Lists_At n12.2.2 e13.1 e14.2) fun r15 => Res.given (wait_Lists_At.okOut r15) (Res.ok (.next ((IntKind.wrap .i64 (n12.1 + (r15.1.length : Int)), (IntKind.wrap .i64 (n12.2.1 + 1), r15.2)))))))) (Res.ok (.done ((n12.1, n12.2.2))))) fuel (0, (0, r11.2))) fun n16 => Res.bind (R.wait_Lists_Expire n16.2 now1) fun r17 => Res.given (wait_Lists_Expire.okOut r17) (Res.bind (R.wait_Lists_Places r17.2) fun r18 => Res.given (wait_Lists_Places.okOut r18) (Res.bind (Res.loop (α := (Int × (Int × (List ((List Int) × (List T_wait_Waiter.den)))))) (β := ((Int × (List ((List Int) × (List T_wait_Waiter.den)))) ⊕ Bool)) (fun left19 => Res.br (ilt left19.2.1 (r18.1.length : Int)) (Res.need (ile 0 left19.2.1 && ilt left19.2.1 r18.1.length) (Res.idx (.pair (.int .i64) (.int .i64)) r18.1 (0 + Int.toNat left19.2.1) fun e20 => Res.need (ile 0 left19.2.1 && ilt left19.2.1 r18.1.length) (Res.idx (.pair (.int .i64) (.int .i64)) r18.1 (0 + Int.toNat left19.2.1) fun e21 => Res.bind (R.wait_Lists_At left19.2.2 e20.1 e21.2) fun r22 => Res.given (wait_Lists_At.okOut r22) (Res.bind (Res.loop (α := Int) (β := (Unit ⊕ Bool)) (fun k23 => Res.br (ilt k23 (r22.1.length : Int)) (Res.bind (α := Bool) (Res.need (ile 0 k23 && ilt k23 r22.1.length) (Res.idx T_wait_Waiter r22.1 (0 + Int.toNat k23) fun e24 => Res.br (!e24.2.2) (Res.need (ile 0 k23 && ilt k23 r22.1.length) (Res.idx T_wait_Waiter r22.1 (0 + Int.toNat k23) fun e25 => Res.ok ((ile e25.2.1 now1)))) (Res.ok (false)))) fun x26 => Res.br x26 (Res.ok (.done (.inr false))) (Res.ok (.next (IntKind.wrap .i64 (k23 + 1))))) (Res.ok (.done (.inl ())))) fuel 0) fun x27 => Res.sum x27 (fun x28 => Res.ok (.next ((IntKind.wrap .i64 (left19.1 + (r22.1.length : Int)), (IntKind.wrap .i64 (left19.2.1 + 1), r22.2))))) (fun z29 => Res.ok (.done (.inr z29))))))) (Res.ok (.done (.inl (left19.1, left19.2.2))))) fuel (0, (0, r18.2))) fun left30 => Res.sum left30 (fun left31 => Res.bind (R.wait_Lists_Expire left31.2 later2) fun r33 => Res.given (wait_Lists_Expire.okOut r33) (Res.bind (Res.loop (α := Int) (β := (Unit ⊕ Bool)) (fun i34 => Res.br (ilt i34 (r17.1.length : Int)) (Res.bind (Res.loop (α := Int) (β := (Unit ⊕ Bool)) (fun k35 => Res.br (ilt k35 (r33.1.length : Int)) (Res.need (ile 0 i34 && ilt i34 r17.1.length) (Res.idx (.int .i64) r17.1 (0 + Int.toNat i34) fun e36 => Res.need (ile 0 k35 && ilt k35 r33.1.length) (Res.idx (.int .i64) r33.1 (0 + Int.toNat k35) fun e37 => Res.br (e36 == e37) (Res.ok (.done (.inr false))) (Res.ok (.next (IntKind.wrap .i64 (k35 + 1))))))) (Res.ok (.done (.inl ())))) fuel 0) fun x38 => Res.sum x38 (fun x39 => Res.ok (.next (IntKind.wrap .i64 (i34 + 1)))) (fun z40 => Res.ok (.done (.inr z40)))) (Res.ok (.done (.inl ())))) fuel 0) fun x41 => Res.sum x41 (fun x42 => Res.bind (R.renlaw22_first) fun r44 => Res.br r44 (Res.br (n16.1 == (IntKind.wrap .i64 (left31.1 + (r17.1.length : Int)))) (Res.br (ilt now1 later2) (Res.ok (true)) (Res.ok (((r33.1.length : Int) == 0)))) (Res.ok (false))) (Res.ok (false))) (fun z43 => Res.ok (z43)))) (fun z32 => Res.ok (z32)))))))))

end Go.Mach

set_option linter.unusedVariables false
namespace Go.Mach
open Go.Proofs
def mapsOf : List (TypeId × Nat) := [(43, 2)]
theorem keyT_43 : KeyT Try.prog 43 2 := keyT_of (T := 3) (by kernel_rfl) (Nat.le_of_ble_eq_true (by kernel_rfl)) (by kernel_rfl) (by kernel_rfl) (Nat.le_of_ble_eq_true (n := 44) (by kernel_rfl)) (by kernel_rfl) (by kernel_rfl) (by kernel_rfl)
theorem mapsOk : ∀ p ∈ mapsOf, KeyT Try.prog p.1 p.2 := fun p hp => by
  simp only [mapsOf, List.mem_singleton] at hp
  subst hp
  exact keyT_43
def owned : List (TypeId × Sh) := [(40, (.own (.frz T_wait_Waiter)))]
noncomputable def cmp_isNaN_int.spec : Spec := ⟨36, cmp_isNaN_int.ps, cmp_isNaN_int.rs, fun x => R.cmp_isNaN_int x⟩
noncomputable def cmp_isNaN_int.env : Env := { P := Try.prog, specs := [], ety := etyOf Try.prog owned }
def cmp_isNaN_int.ann : Ann := .none

noncomputable def cmp_Compare_int.spec : Spec := ⟨24, cmp_Compare_int.ps, cmp_Compare_int.rs, fun x => R.cmp_Compare_int x.1 x.2⟩
noncomputable def cmp_Compare_int.env : Env := { P := Try.prog, specs := [cmp_isNaN_int.spec], ety := etyOf Try.prog owned }
def cmp_Compare_int.ann : Ann := .none

noncomputable def slices_Compare_int.spec : Spec := ⟨19, slices_Compare_int.ps, slices_Compare_int.rs, fun x => R.slices_Compare_int x.1 x.2⟩
noncomputable def slices_Compare_int.env : Env := { P := Try.prog, specs := [cmp_Compare_int.spec], ety := etyOf Try.prog owned }
def slices_Compare_int.ann : Ann := (.two .none (.two (.two .none (.two (.loop ⟨[(11, (false, (.frz (.int .i64))))], [4, 5, 6, 7, 8, 12, 13, 14, 15, 16, 17, 18, 19, 20, 21, 22, 23, 24, 25, 26, 27, 28, 29, 30], [], []⟩ [(.ext 0, ⟨[], [4, 5, 6, 7, 8, 11, 12, 13, 14, 15, 16, 17, 18, 19, 20, 21, 22, 23, 24, 25, 26, 27, 28, 29, 30], [], []⟩), (.ret, ⟨[(4, (false, (.frz (.int .i64))))], [5, 6, 7, 8, 11, 12, 13, 14, 15, 16, 17, 18, 19, 20, 21, 22, 23, 24, 25, 26, 27, 28, 29, 30], [], []⟩)] .none) .none)) .none))

noncomputable def wait_Lists_Places_1.spec : Spec := ⟨18, wait_Lists_Places_1.ps, wait_Lists_Places_1.rs, fun x => R.wait_Lists_Places_1 x.1 x.2⟩
noncomputable def wait_Lists_Places_1.env : Env := { P := Try.prog, specs := [slices_Compare_int.spec], ety := etyOf Try.prog owned }
def wait_Lists_Places_1.ann : Ann := .none

noncomputable def wait_New.spec : Spec := ⟨7, wait_New.ps, wait_New.rs, fun _ => R.wait_New⟩
noncomputable def wait_New.env : Env := { P := Try.prog, specs := [], ety := etyOf Try.prog owned, maps := mapsOf, kok := mapsOk }
def wait_New.ann : Ann := .none

noncomputable def wait_Lists_Has_1.spec : Spec := ⟨21, wait_Lists_Has_1.ps, wait_Lists_Has_1.rs, fun x => R.wait_Lists_Has_1 x.1 x.2⟩
noncomputable def wait_Lists_Has_1.env : Env := { P := Try.prog, specs := [], ety := etyOf Try.prog owned }
def wait_Lists_Has_1.ann : Ann := .none

noncomputable def slices_IndexFunc_waitWaiter__wait_Lists_Has_1.spec : Spec := ⟨25, slices_IndexFunc_waitWaiter__wait_Lists_Has_1.ps, slices_IndexFunc_waitWaiter__wait_Lists_Has_1.rs, fun x => R.slices_IndexFunc_waitWaiter__wait_Lists_Has_1 x.1 x.2⟩
noncomputable def slices_IndexFunc_waitWaiter__wait_Lists_Has_1.env : Env := { P := Try.prog, specs := [wait_Lists_Has_1.spec], ety := etyOf Try.prog owned }
def slices_IndexFunc_waitWaiter__wait_Lists_Has_1.ann : Ann := (.two .none (.two (.two .none (.two (.loop ⟨[(8, (false, (.frz (.int .i64))))], [4, 5, 9, 10, 11, 12, 13, 14, 15, 16, 17, 18], [], []⟩ [(.ext 0, ⟨[], [4, 5, 8, 9, 10, 11, 12, 13, 14, 15, 16, 17, 18], [], []⟩), (.ret, ⟨[(4, (false, (.frz (.int .i64))))], [5, 8, 9, 10, 11, 12, 13, 14, 15, 16, 17, 18], [], []⟩)] .none) .none)) .none))

noncomputable def slices_ContainsFunc_waitWaiter__wait_Lists_Has_1.spec : Spec := ⟨20, slices_ContainsFunc_waitWaiter__wait_Lists_Has_1.ps, slices_ContainsFunc_waitWaiter__wait_Lists_Has_1.rs, fun x => R.slices_ContainsFunc_waitWaiter__wait_Lists_Has_1 x.1 x.2⟩
noncomputable def slices_ContainsFunc_waitWaiter__wait_Lists_Has_1.env : Env := { P := Try.prog, specs := [slices_IndexFunc_waitWaiter__wait_Lists_Has_1.spec], ety := etyOf Try.prog owned }
def slices_ContainsFunc_waitWaiter__wait_Lists_Has_1.ann : Ann := .none

noncomputable def wait_Lists_Has.spec : Spec := ⟨12, wait_Lists_Has.ps, wait_Lists_Has.rs, fun x => R.wait_Lists_Has x.1 x.2⟩
noncomputable def wait_Lists_Has.env : Env := { P := Try.prog, specs := [slices_ContainsFunc_waitWaiter__wait_Lists_Has_1.spec], ety := etyOf Try.prog owned, maps := mapsOf, kok := mapsOk }
def wait_Lists_Has.ann : Ann := (.two .none (.two (.two .none (.two (.range ⟨[], [4, 6, 12, 13, 14, 15, 16, 17, 18], [], []⟩ [(.ret, ⟨[(4, (false, (.frz .bool)))], [6, 12, 13, 14, 15, 16, 17, 18], [], []⟩)] .none) .none)) .none))

noncomputable def wait_Lists_Add.spec : Spec := ⟨8, wait_Lists_Add.ps, wait_Lists_Add.rs, fun x => R.wait_Lists_Add x.1 x.2.1 x.2.2.1 x.2.2.2⟩
noncomputable def wait_Lists_Add.env : Env := { P := Try.prog, specs := [wait_Lists_Has.spec], ety := etyOf Try.prog owned, maps := mapsOf, kok := mapsOk }
def wait_Lists_Add.ann : Ann := (.two .none (.two (.two (.two (.piece [(.nrm, ⟨[(10, (false, (.frz .bool)))], [11, 12, 13, 14, 15, 16, 17, 18, 19, 20, 21, 22, 23, 24, 25, 26, 27, 28, 29, 30, 31, 32, 33, 34, 35], [], []⟩)] .none) .none) .none) .none))

noncomputable def wait_Lists_set.spec : Spec := ⟨15, wait_Lists_set.ps, wait_Lists_set.rs, fun x => R.wait_Lists_set x.1 x.2.1 x.2.2⟩
noncomputable def wait_Lists_set.env : Env := { P := Try.prog, specs := [], ety := etyOf Try.prog owned, maps := mapsOf, kok := mapsOk }
def wait_Lists_set.ann : Ann := .none

noncomputable def wait_Lists_Wake.spec : Spec := ⟨9, wait_Lists_Wake.ps, wait_Lists_Wake.rs, fun x => R.wait_Lists_Wake x.1 x.2.1 x.2.2.1 x.2.2.2.1 x.2.2.2.2⟩
noncomputable def wait_Lists_Wake.env : Env := { P := Try.prog, specs := [cloneSpecN 24 16 T_wait_Waiter, wait_Lists_set.spec], ety := etyOf Try.prog owned, maps := mapsOf, kok := mapsOk }
def wait_Lists_Wake.ann : Ann := (.two .none (.two .none (.two .none (.two (.piece [(.nrm, ⟨[(3, (false, (.frz (.int .i64))))], [25, 26, 27, 28, 29, 30, 31, 32, 33], [], []⟩)] (.two (.piece [(.nrm, ⟨[(31, (false, (.frz .bool)))], [25, 26, 27, 28, 29, 30], [], []⟩)] .none) .none)) (.two .none (.two .none (.two (.two .none (.two (.loop ⟨[(13, (false, (.own (.frz (.int .i64))))), (40, (false, (.frz (.int .i64))))], [15, 41, 42, 43, 44, 45, 46, 47, 48, 49], [], []⟩ [(.ext 0, ⟨[(13, (false, (.own (.frz (.int .i64)))))], [15, 40, 41, 42, 43, 44, 45, 46, 47, 48, 49], [], []⟩)] .none) .none)) .none)))))))

noncomputable def wait_Lists_Places.spec : Spec := ⟨11, wait_Lists_Places.ps, wait_Lists_Places.rs, fun x => R.wait_Lists_Places x⟩
noncomputable def wait_Lists_Places.env : Env := { P := Try.prog, specs := [sortSpec 17 18], ety := etyOf Try.prog owned, maps := mapsOf, kok := mapsOk }
def wait_Lists_Places.ann : Ann := (.two .none (.two .none (.two (.two .none (.two (.range ⟨[(3, (false, (.own (.frz (.pair (.int .i64) (.int .i64))))))], [4, 10, 11, 12, 13, 14, 15, 16, 17], [], []⟩ [] .none) .none)) .none)))

noncomputable def wait_Lists_Expire.spec : Spec := ⟨14, wait_Lists_Expire.ps, wait_Lists_Expire.rs, fun x => R.wait_Lists_Expire x.1 x.2⟩
noncomputable def wait_Lists_Expire.env : Env := { P := Try.prog, specs := [wait_Lists_Places.spec, wait_Lists_set.spec], ety := etyOf Try.prog owned, maps := mapsOf, kok := mapsOk }
def wait_Lists_Expire.ann : Ann := (.two .none (.two .none (.two (.two .none (.two (.loop ⟨[(5, (false, (.own (.frz (.int .i64))))), (14, (false, (.frz (.int .i64))))], [7, 8, 10, 15, 16, 17, 18, 19, 20, 21, 22, 23, 24, 25, 26, 27, 28, 29, 30, 31, 32, 33, 34, 35, 36, 37, 38, 39, 40, 41, 42, 43, 44, 45, 46, 47, 48, 49, 50, 51], [(1, (.box (.map 2 (.own (.frz T_wait_Waiter)))))], [3]⟩ [(.ext 0, ⟨[(5, (false, (.own (.frz (.int .i64)))))], [7, 8, 10, 14, 15, 16, 17, 18, 19, 20, 21, 22, 23, 24, 25, 26, 27, 28, 29, 30, 31, 32, 33, 34, 35, 36, 37, 38, 39, 40, 41, 42, 43, 44, 45, 46, 47, 48, 49, 50, 51], [(1, (.box (.map 2 (.own (.frz T_wait_Waiter)))))], [3]⟩)] (.two .none (.two .none (.two (.two (.two .none (.two .none (.two (.two .none (.two (.loop ⟨[(5, (false, (.own (.frz (.int .i64))))), (8, (false, (.own (.frz T_wait_Waiter)))), (25, (false, (.frz (.int .i64))))], [10, 26, 27, 28, 29, 30, 31, 32, 33, 34, 35, 36, 37, 38, 39, 40, 41, 42, 43, 44, 45, 46], [], [5]⟩ [(.ext 2, ⟨[(5, (false, (.own (.frz (.int .i64))))), (8, (false, (.own (.frz T_wait_Waiter))))], [10, 25, 26, 27, 28, 29, 30, 31, 32, 33, 34, 35, 36, 37, 38, 39, 40, 41, 42, 43, 44, 45, 46], [], [5]⟩)] (.two .none (.two .none (.two (.two (.two .none (.two (.piece [(.nrm, ⟨[(36, (false, (.frz .bool)))], [29, 30, 31, 32, 33, 34, 35], [], []⟩)] .none) .none)) .none) .none)))) .none)) .none))) .none) .none)))) .none)) .none)))

noncomputable def renref_Ints.spec : Spec := ⟨10, renref_Ints.ps, renref_Ints.rs, fun x => R.renref_Ints x.1 x.2⟩
noncomputable def renref_Ints.env : Env := { P := Try.prog, specs := [], ety := etyOf Try.prog owned }
def renref_Ints.ann : Ann := (.two .none (.two .none (.two (.two .none (.two (.loop ⟨[(5, (false, (.frz (.int .i64))))], [4, 11, 12, 13, 14, 15, 16, 17, 18, 19, 20, 21, 22, 23, 24, 25], [], []⟩ [(.ext 0, ⟨[], [4, 5, 11, 12, 13, 14, 15, 16, 17, 18, 19, 20, 21, 22, 23, 24, 25], [], []⟩), (.ret, ⟨[(4, (false, (.frz .bool)))], [5, 11, 12, 13, 14, 15, 16, 17, 18, 19, 20, 21, 22, 23, 24, 25], [], []⟩)] .none) .none)) .none)))

noncomputable def renlaw22_first.spec : Spec := ⟨6, renlaw22_first.ps, renlaw22_first.rs, fun _ => R.renlaw22_first⟩
noncomputable def renlaw22_first.env : Env := { P := Try.prog, specs := [renref_Ints.spec, wait_Lists_Add.spec, wait_Lists_Expire.spec, wait_Lists_Wake.spec, wait_New.spec], ety := etyOf Try.prog owned }
def renlaw22_first.ann : Ann := .none

noncomputable def renlaw22_WaitFair.spec : Spec := ⟨3, renlaw22_WaitFair.ps, renlaw22_WaitFair.rs, fun x => R.renlaw22_WaitFair x.1 x.2.1 x.2.2⟩
noncomputable def renlaw22_WaitFair.env : Env := { P := Try.prog, specs := [renlaw22_first.spec, renref_Ints.spec, wait_Lists_Add.spec, wait_Lists_Places.spec, wait_Lists_Wake.spec, wait_New.spec], ety := etyOf Try.prog owned }
def renlaw22_WaitFair.ann : Ann := (.two .none (.two .none (.two .none (.two (.two (.piece [(.nrm, ⟨[(31, (false, (.frz .bool)))], [18, 19, 20, 21, 22, 23, 24, 25, 26, 27, 28, 29, 30], [], []⟩)] .none) .none) (.two .none (.two (.two .none (.two (.loop ⟨[(8, (false, (.own (.frz (.int .i64))))), (9, (false, (.own (.frz (.int .i64))))), (10, (false, (.frz (.int .i64))))], [11, 37, 38, 39, 40, 41, 42, 43, 44, 45, 46, 47, 48, 49, 50, 51, 52, 53, 54, 55, 56, 57, 58, 59, 60, 61, 62, 63, 64, 65, 66, 67, 68, 69, 70, 71, 72, 73], [(3, (.box (.map 2 (.own (.frz T_wait_Waiter)))))], [2]⟩ [(.ext 0, ⟨[(8, (false, (.own (.frz (.int .i64))))), (9, (false, (.own (.frz (.int .i64)))))], [10, 11, 37, 38, 39, 40, 41, 42, 43, 44, 45, 46, 47, 48, 49, 50, 51, 52, 53, 54, 55, 56, 57, 58, 59, 60, 61, 62, 63, 64, 65, 66, 67, 68, 69, 70, 71, 72, 73], [(3, (.box (.map 2 (.own (.frz T_wait_Waiter)))))], [2]⟩)] (.two .none (.two (.two (.two .none (.two (.piece [(.nrm, ⟨[(11, (false, (.frz (.int .i64))))], [43, 44, 45, 46], [], []⟩)] .none) .none)) .none) .none))) .none)) .none))))))

noncomputable def wait_Lists_At.spec : Spec := ⟨13, wait_Lists_At.ps, wait_Lists_At.rs, fun x => R.wait_Lists_At x.1 x.2.1 x.2.2⟩
noncomputable def wait_Lists_At.env : Env := { P := Try.prog, specs := [cloneSpecN 24 16 T_wait_Waiter], ety := etyOf Try.prog owned, maps := mapsOf, kok := mapsOk }
def wait_Lists_At.ann : Ann := .none

noncomputable def renlaw22_WaitOnce.spec : Spec := ⟨4, renlaw22_WaitOnce.ps, renlaw22_WaitOnce.rs, fun x => R.renlaw22_WaitOnce x.1 x.2.1 x.2.2.1 x.2.2.2⟩
noncomputable def renlaw22_WaitOnce.env : Env := { P := Try.prog, specs := [renlaw22_first.spec, wait_Lists_Add.spec, wait_Lists_At.spec, wait_Lists_Has.spec, wait_Lists_Wake.spec, wait_New.spec], ety := etyOf Try.prog owned }
def renlaw22_WaitOnce.ann : Ann := (.two .none (.two .none (.two .none (.two (.two (.piece [(.nrm, ⟨[(25, (false, (.frz .bool)))], [19, 20, 21, 22, 23, 24], [], []⟩)] .none) .none) (.two (.two .none (.two (.loop ⟨[(10, (false, (.frz (.int .i64))))], [8, 11, 31, 32, 33, 34, 35, 36, 37, 38, 39, 40, 41, 42, 43, 44, 45, 46, 47, 48, 49, 50, 51, 52, 53, 54, 55, 56, 57, 58, 59, 60, 61, 62, 63, 64, 65, 66, 67, 68, 69, 70, 71, 72, 73, 74, 75, 76, 77, 78, 79, 80, 81, 82, 83, 84, 85, 86, 87, 88, 89, 90, 91, 92, 93, 94, 95, 96, 97, 98, 99, 100, 101, 102, 103, 104, 105, 106, 107], [(2, (.box (.map 2 (.own (.frz T_wait_Waiter)))))], [1]⟩ [(.ext 0, ⟨[], [8, 10, 11, 31, 32, 33, 34, 35, 36, 37, 38, 39, 40, 41, 42, 43, 44, 45, 46, 47, 48, 49, 50, 51, 52, 53, 54, 55, 56, 57, 58, 59, 60, 61, 62, 63, 64, 65, 66, 67, 68, 69, 70, 71, 72, 73, 74, 75, 76, 77, 78, 79, 80, 81, 82, 83, 84, 85, 86, 87, 88, 89, 90, 91, 92, 93, 94, 95, 96, 97, 98, 99, 100, 101, 102, 103, 104, 105, 106, 107], [(2, (.box (.map 2 (.own (.frz T_wait_Waiter)))))], [1]⟩), (.ret, ⟨[(8, (false, (.frz .bool)))], [10, 11, 31, 32, 33, 34, 35, 36, 37, 38, 39, 40, 41, 42, 43, 44, 45, 46, 47, 48, 49, 50, 51, 52, 53, 54, 55, 56, 57, 58, 59, 60, 61, 62, 63, 64, 65, 66, 67, 68, 69, 70, 71, 72, 73, 74, 75, 76, 77, 78, 79, 80, 81, 82, 83, 84, 85, 86, 87, 88, 89, 90, 91, 92, 93, 94, 95, 96, 97, 98, 99, 100, 101, 102, 103, 104, 105, 106, 107], [], [1, 2]⟩)] (.two .none (.two (.two (.two .none (.two (.two .none (.two (.two .none (.two (.piece [(.nrm, ⟨[(83, (false, (.frz .bool)))], [52, 53, 54, 55, 56, 57, 58, 59, 60, 61, 62, 63, 64, 65, 66, 67, 68, 69, 70, 71, 72, 73, 74, 75, 76, 77, 78, 79, 80, 81, 82], [(2, (.box (.map 2 (.own (.frz T_wait_Waiter)))))], [7]⟩)] .none) .none)) .none)) .none)) .none) .none))) .none)) (.two .none (.two .none (.two .none (.two (.two (.piece [(.nrm, ⟨[(138, (false, (.frz .bool)))], [121, 122, 123, 124, 125, 126, 127, 128, 129, 130, 131, 132, 133, 134, 135, 136, 137], [], []⟩)] .none) .none) (.two (.two .none (.two (.loop ⟨[(15, (false, (.frz (.int .i64))))], [8, 139, 140, 141, 142, 143, 144, 145, 146, 147, 148, 149, 150, 151, 152, 153, 154, 155, 156, 157, 158, 159, 160, 161, 162, 163, 164, 165, 166, 167, 168, 169, 170, 171, 172, 173, 174, 175, 176, 177, 178, 179, 180, 181, 182, 183, 184, 185, 186, 187, 188, 189, 190, 191, 192, 193, 194, 195, 196, 197, 198], [(2, (.box (.map 2 (.own (.frz T_wait_Waiter)))))], [12]⟩ [(.ext 3, ⟨[], [8, 15, 139, 140, 141, 142, 143, 144, 145, 146, 147, 148, 149, 150, 151, 152, 153, 154, 155, 156, 157, 158, 159, 160, 161, 162, 163, 164, 165, 166, 167, 168, 169, 170, 171, 172, 173, 174, 175, 176, 177, 178, 179, 180, 181, 182, 183, 184, 185, 186, 187, 188, 189, 190, 191, 192, 193, 194, 195, 196, 197, 198], [], [2, 12]⟩), (.ret, ⟨[(8, (false, (.frz .bool)))], [15, 139, 140, 141, 142, 143, 144, 145, 146, 147, 148, 149, 150, 151, 152, 153, 154, 155, 156, 157, 158, 159, 160, 161, 162, 163, 164, 165, 166, 167, 168, 169, 170, 171, 172, 173, 174, 175, 176, 177, 178, 179, 180, 181, 182, 183, 184, 185, 186, 187, 188, 189, 190, 191, 192, 193, 194, 195, 196, 197, 198], [], [2, 12]⟩)] (.two .none (.two (.two (.two (.piece [(.nrm, ⟨[(198, (false, (.frz .bool)))], [145, 146, 147, 148, 149, 150, 151, 152, 153, 154, 155, 156, 157, 158, 159, 160, 161, 162, 163, 164, 165, 166, 167, 168, 169, 170, 171, 172, 173, 174, 175, 176, 177, 178, 179, 180, 181, 182, 183, 184, 185, 186, 187, 188, 189, 190, 191, 192, 193, 194, 195, 196, 197], [(2, (.box (.map 2 (.own (.frz T_wait_Waiter)))))], [14]⟩)] .none) .none) .none) .none))) .none)) .none))))))))))

noncomputable def renlaw22_WaitTimes.spec : Spec := ⟨5, renlaw22_WaitTimes.ps, renlaw22_WaitTimes.rs, fun x => R.renlaw22_WaitTimes x.1 x.2.1 x.2.2⟩
noncomputable def renlaw22_WaitTimes.env : Env := { P := Try.prog, specs := [renlaw22_first.spec, wait_Lists_Add.spec, wait_Lists_At.spec, wait_Lists_Expire.spec, wait_Lists_Places.spec, wait_New.spec], ety := etyOf Try.prog owned }
def renlaw22_WaitTimes.ann : Ann := (.two .none (.two .none (.two .none (.two (.two (.piece [(.nrm, ⟨[(29, (false, (.frz .bool)))], [23, 24, 25, 26, 27, 28], [], []⟩)] .none) .none) (.two (.two .none (.two (.loop ⟨[(8, (false, (.frz (.int .i64))))], [35, 36, 37, 38, 39, 40, 41, 42, 43, 44, 45, 46, 47, 48, 49, 50, 51, 52, 53, 54, 55, 56, 57], [(2, (.box (.map 2 (.own (.frz T_wait_Waiter)))))], [1]⟩ [(.ext 0, ⟨[], [8, 35, 36, 37, 38, 39, 40, 41, 42, 43, 44, 45, 46, 47, 48, 49, 50, 51, 52, 53, 54, 55, 56, 57], [(2, (.box (.map 2 (.own (.frz T_wait_Waiter)))))], [1]⟩)] .none) .none)) (.two .none (.two .none (.two (.two .none (.two (.loop ⟨[(9, (false, (.frz (.int .i64)))), (11, (false, (.frz (.int .i64))))], [60, 61, 62, 63, 64, 65, 66, 67, 68, 69, 70, 71, 72, 73, 74, 75, 76, 77, 78, 79, 80], [(2, (.box (.map 2 (.own (.frz T_wait_Waiter)))))], [6]⟩ [(.ext 2, ⟨[(9, (false, (.frz (.int .i64))))], [11, 60, 61, 62, 63, 64, 65, 66, 67, 68, 69, 70, 71, 72, 73, 74, 75, 76, 77, 78, 79, 80], [(2, (.box (.map 2 (.own (.frz T_wait_Waiter)))))], [6]⟩)] .none) .none)) (.two .none (.two .none (.two .none (.two (.two .none (.two (.loop ⟨[(13, (false, (.frz (.int .i64)))), (14, (false, (.frz (.int .i64))))], [6, 15, 16, 86, 87, 88, 89, 90, 91, 92, 93, 94, 95, 96, 97, 98, 99, 100, 101, 102, 103, 104, 105, 106, 107, 108, 109, 110, 111, 112, 113, 114, 115, 116, 117, 118, 119, 120, 121, 122, 123, 124, 125, 126, 127, 128], [(2, (.box (.map 2 (.own (.frz T_wait_Waiter)))))], [14]⟩ [(.ext 4, ⟨[(13, (false, (.frz (.int .i64))))], [6, 14, 15, 16, 86, 87, 88, 89, 90, 91, 92, 93, 94, 95, 96, 97, 98, 99, 100, 101, 102, 103, 104, 105, 106, 107, 108, 109, 110, 111, 112, 113, 114, 115, 116, 117, 118, 119, 120, 121, 122, 123, 124, 125, 126, 127, 128], [(2, (.box (.map 2 (.own (.frz T_wait_Waiter)))))], [14]⟩), (.ret, ⟨[(6, (false, (.frz .bool)))], [13, 14, 15, 16, 86, 87, 88, 89, 90, 91, 92, 93, 94, 95, 96, 97, 98, 99, 100, 101, 102, 103, 104, 105, 106, 107, 108, 109, 110, 111, 112, 113, 114, 115, 116, 117, 118, 119, 120, 121, 122, 123, 124, 125, 126, 127, 128], [], [2, 14]⟩)] (.two .none (.two (.two (.two .none (.two .none (.two .none (.two (.loop ⟨[(16, (false, (.frz (.int .i64))))], [6, 108, 109, 110, 111, 112, 113, 114, 115, 116, 117, 118, 119, 120, 121, 122, 123, 124, 125, 126, 127, 128], [], []⟩ [(.ext 6, ⟨[], [6, 16, 108, 109, 110, 111, 112, 113, 114, 115, 116, 117, 118, 119, 120, 121, 122, 123, 124, 125, 126, 127, 128], [], []⟩), (.ret, ⟨[(6, (false, (.frz .bool)))], [16, 108, 109, 110, 111, 112, 113, 114, 115, 116, 117, 118, 119, 120, 121, 122, 123, 124, 125, 126, 127, 128], [], []⟩)] (.two .none (.two (.two (.two (.piece [(.nrm, ⟨[(128, (false, (.frz .bool)))], [114, 115, 116, 117, 118, 119, 120, 121, 122, 123, 124, 125, 126, 127], [], []⟩)] .none) .none) .none) .none))) .none)))) .none) .none))) .none)) (.two .none (.two (.two .none (.two (.loop ⟨[(18, (false, (.frz (.int .i64))))], [6, 19, 132, 133, 134, 135, 136, 137, 138, 139, 140, 141, 142, 143, 144, 145, 146, 147, 148, 149, 150, 151, 152], [], []⟩ [(.ext 8, ⟨[], [6, 18, 19, 132, 133, 134, 135, 136, 137, 138, 139, 140, 141, 142, 143, 144, 145, 146, 147, 148, 149, 150, 151, 152], [], []⟩), (.ret, ⟨[(6, (false, (.frz .bool)))], [18, 19, 132, 133, 134, 135, 136, 137, 138, 139, 140, 141, 142, 143, 144, 145, 146, 147, 148, 149, 150, 151, 152], [], []⟩)] (.two .none (.two (.two (.two .none (.two (.loop ⟨[(19, (false, (.frz (.int .i64))))], [6, 138, 139, 140, 141, 142, 143, 144, 145, 146, 147, 148, 149, 150, 151, 152], [], []⟩ [(.ext 10, ⟨[], [6, 19, 138, 139, 140, 141, 142, 143, 144, 145, 146, 147, 148, 149, 150, 151, 152], [], []⟩), (.ret, ⟨[(6, (false, (.frz .bool)))], [19, 138, 139, 140, 141, 142, 143, 144, 145, 146, 147, 148, 149, 150, 151, 152], [], []⟩)] .none) .none)) .none) .none))) .none)) .none))))))))))))))

end Go.Mach

set_option maxRecDepth 100000
namespace Go.Mach
open Go.Proofs
theorem clone_ok_16 : Contract Try.prog (cloneSpecN 24 16 T_wait_Waiter) :=
  clone_contract (g := fun xs => decide ((0 + xs.length) * 24 ≤ 2 ^ 47)) (fn := Try.f16) (T := 40) (B := 4) (el := 30) (ety := etyOf Try.prog owned) (by kernel_rfl) (by kernel_rfl) (by kernel_rfl) (by kernel_rfl) (by kernel_rfl) (by kernel_rfl) (by kernel_rfl) (fun xs => by kernel_rfl)
end Go.Mach

namespace Go.Mach
open Go.Proofs Go.Shelf
def sortLay_ren : Go.Shelf.Ren := ⟨fun | 6 => 17 | 15 => 23 | 14 => 22 | 28 => 34 | 29 => 35 | 20 => 26 | 21 => 27 | 22 => 28 | 23 => 29 | 24 => 30 | 25 => 31 | 26 => 32 | 27 => 33 | 46 => 37 | 47 => 38 | 48 => 39 | 49 => 40 | 50 => 41 | 57 => 42 | n => n, fun | 22 => 33 | 24 => 43 | 25 => 53 | 3 => 3 | 39 => 58 | 0 => 0 | 53 => 70 | 55 => 72 | 4 => 4 | 46 => 63 | 45 => 62 | 50 => 67 | 5 => 5 | 9 => 9 | 66 => 73 | 70 => 77 | 76 => 79 | 77 => 80 | n => n, fun | n => n⟩
theorem sortLay : Go.Proofs.SlLaysF0.n6 Try.prog sortLay_ren := {
    mixed := by kernel_rfl,
    f6 := ⟨Try.f17.name, by decide, Try.func17.trans (congrArg some (by kernel_rfl))⟩,
    f14 := ⟨Try.f22.name, by decide, Try.func22.trans (congrArg some (by kernel_rfl))⟩,
    f15 := Try.func23.trans (congrArg some (by kernel_rfl)),
    f20 := ⟨Try.f26.name, by decide, Try.func26.trans (congrArg some (by kernel_rfl))⟩,
    f21 := ⟨Try.f27.name, by decide, Try.func27.trans (congrArg some (by kernel_rfl))⟩,
    f22 := ⟨Try.f28.name, by decide, Try.func28.trans (congrArg some (by kernel_rfl))⟩,
    f23 := ⟨Try.f29.name, by decide, Try.func29.trans (congrArg some (by kernel_rfl))⟩,
    f24 := ⟨Try.f30.name, by decide, Try.func30.trans (congrArg some (by kernel_rfl))⟩,
    f25 := ⟨Try.f31.name, by decide, Try.func31.trans (congrArg some (by kernel_rfl))⟩,
    f26 := ⟨Try.f32.name, by decide, Try.func32.trans (congrArg some (by kernel_rfl))⟩,
    f27 := ⟨Try.f33.name, by decide, Try.func33.trans (congrArg some (by kernel_rfl))⟩,
    f28 := Try.func34.trans (congrArg some (by kernel_rfl)),
    f29 := Try.func35.trans (congrArg some (by kernel_rfl)),
    f46 := ⟨Try.f37.name, by decide, Try.func37.trans (congrArg some (by kernel_rfl))⟩,
    f47 := Try.func38.trans (congrArg some (by kernel_rfl)),
    f48 := Try.func39.trans (congrArg some (by kernel_rfl)),
    f49 := ⟨Try.f40.name, by decide, Try.func40.trans (congrArg some (by kernel_rfl))⟩,
    f50 := ⟨Try.f41.name, by decide, Try.func41.trans (congrArg some (by kernel_rfl))⟩,
    f57 := ⟨Try.f42.name, by decide, Try.func42.trans (congrArg some (by kernel_rfl))⟩,
    t0 := Try.underlying0,
    a0 := Try.isAgg0,
    z0 := Try.sizeOf0,
    v0 := Try.zeroValue0,
    t3 := Try.underlying3,
    a3 := Try.isAgg3,
    z3 := Try.sizeOf3,
    v3 := Try.zeroValue3,
    t4 := Try.underlying4,
    a4 := Try.isAgg4,
    z4 := Try.sizeOf4,
    v4 := Try.zeroValue4,
    t5 := Try.underlying5,
    a5 := Try.isAgg5,
    z5 := Try.sizeOf5,
    v5 := Try.zeroValue5,
    t9 := Try.underlying9,
    a9 := Try.isAgg9,
    z9 := Try.sizeOf9,
    v9 := Try.zeroValue9,
    t22 := Try.underlying33,
    a22 := Try.isAgg33,
    z22 := Try.sizeOf33,
    v22 := Try.zeroValue33,
    t25 := Try.underlying53,
    a25 := Try.isAgg53,
    z25 := Try.sizeOf53,
    v25 := Try.zeroValue53,
    t39 := Try.underlying58,
    a39 := Try.isAgg58,
    z39 := Try.sizeOf58,
    v39 := Try.zeroValue58,
    t45 := Try.underlying62,
    a45 := Try.isAgg62,
    z45 := Try.sizeOf62,
    v45 := Try.zeroValue62,
    t46 := Try.underlying63,
    a46 := Try.isAgg63,
    z46 := Try.sizeOf63,
    v46 := Try.zeroValue63,
    t50 := Try.underlying67,
    a50 := Try.isAgg67,
    z50 := Try.sizeOf67,
    v50 := Try.zeroValue67,
    t53 := Try.underlying70,
    a53 := Try.isAgg70,
    z53 := Try.sizeOf70,
    v53 := Try.zeroValue70,
    t55 := Try.underlying72,
    a55 := Try.isAgg72,
    z55 := Try.sizeOf72,
    v55 := Try.zeroValue72,
    t66 := Try.underlying73,
    a66 := Try.isAgg73,
    z66 := Try.sizeOf73,
    v66 := Try.zeroValue73,
    t70 := Try.underlying77,
    a70 := Try.isAgg77,
    z70 := Try.sizeOf77,
    v70 := Try.zeroValue77,
    t76 := Try.underlying79,
    a76 := Try.isAgg79,
    z76 := Try.sizeOf79,
    v76 := Try.zeroValue79,
    t77 := Try.underlying80,
    a77 := Try.isAgg80,
    z77 := Try.sizeOf80,
    v77 := Try.zeroValue80 }
end Go.Mach
