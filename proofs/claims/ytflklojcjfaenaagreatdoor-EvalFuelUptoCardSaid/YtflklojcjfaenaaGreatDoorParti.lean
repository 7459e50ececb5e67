/-
  Proved here: the law renlaw12.EvalFuel returns true for every input of the stated bulk and leaves its arguments as they were; no further condition.
  By an AI agent; no person has read it.
-/
import Derived.Test.YtflklojcjfaenaaGreatDoorParth
import Derived.Shelf.Strconv.ErrVarAll
import Derived.Shelf.Strconv.Itoa3
import Derived.Shelf.Small.Strs
import Derived.KernelRfl
import Derived.Test.YtflklojcjfaenaaGreatDoorProg
import Derived.Lib.ItoaLen
import Derived.Lib.AtoiErrMem
import Derived.Lib.AtoiAllCases
import Derived.ChangeArms
import Derived.DataReads
import Derived.ChangeSame
import Derived.OpenShut
import Derived.RowKit
set_option linter.all false
set_option linter.deprecated false
set_option maxRecDepth 100000
namespace Go.Mach
open Go.Proofs Go.Shelf
def xO : Go.Shelf.Ren := ⟨fun | 171 => 96 | 243 => 136 | 246 => 171 | 283 => 205 | 284 => 206 | 285 => 207 | 286 => 208 | 129 => 234 | 317 => 233 | 318 => 235 | 319 => 236 | 320 => 237 | 337 => 266 | 338 => 267 | n => n, fun | 3 => 3 | 9 => 9 | 2 => 2 | 4 => 4 | 171 => 241 | 0 => 0 | 53 => 33 | 37 => 56 | 5 => 5 | 173 => 244 | 212 => 262 | 51 => 149 | 20 => 20 | 213 => 263 | 46 => 109 | 232 => 322 | 233 => 323 | n => n, fun | 17 => 2 | 18 => 4 | 19 => 5 | n => n⟩
theorem BK : Go.Proofs.LaysM.n171 Tryz.prog xO where
  mixed := by kernel_rfl
  f129 := Tryz.func234.trans (congrArg some (by kernel_rfl))
  f171 := Tryz.func96.trans (congrArg some (by kernel_rfl))
  f243 := Tryz.func136.trans (congrArg some (by kernel_rfl))
  f246 := Tryz.func171.trans (congrArg some (by kernel_rfl))
  f283 := Tryz.func205.trans (congrArg some (by kernel_rfl))
  f284 := Tryz.func206.trans (congrArg some (by kernel_rfl))
  f285 := Tryz.func207.trans (congrArg some (by kernel_rfl))
  f286 := Tryz.func208.trans (congrArg some (by kernel_rfl))
  f317 := Tryz.func233.trans (congrArg some (by kernel_rfl))
  f318 := Tryz.func235.trans (congrArg some (by kernel_rfl))
  f319 := Tryz.func236.trans (congrArg some (by kernel_rfl))
  f320 := Tryz.func237.trans (congrArg some (by kernel_rfl))
  f337 := Tryz.func266.trans (congrArg some (by kernel_rfl))
  f338 := Tryz.func267.trans (congrArg some (by kernel_rfl))
  t0 := Tryz.underlying0
  a0 := Tryz.isAgg0
  z0 := Tryz.sizeOf0
  v0 := Tryz.zeroValue0
  t2 := Tryz.underlying2
  a2 := Tryz.isAgg2
  z2 := Tryz.sizeOf2
  v2 := Tryz.zeroValue2
  t3 := Tryz.underlying3
  a3 := Tryz.isAgg3
  z3 := Tryz.sizeOf3
  v3 := Tryz.zeroValue3
  t4 := Tryz.underlying4
  a4 := Tryz.isAgg4
  z4 := Tryz.sizeOf4
  v4 := Tryz.zeroValue4
  t5 := Tryz.underlying5
  a5 := Tryz.isAgg5
  z5 := Tryz.sizeOf5
  v5 := Tryz.zeroValue5
  t9 := Tryz.underlying9
  a9 := Tryz.isAgg9
  z9 := Tryz.sizeOf9
  v9 := Tryz.zeroValue9
  t20 := Tryz.underlying20
  a20 := Tryz.isAgg20
  z20 := Tryz.sizeOf20
  v20 := Tryz.zeroValue20
  t37 := Tryz.underlying56
  a37 := Tryz.isAgg56
  z37 := Tryz.sizeOf56
  v37 := Tryz.zeroValue56
  t46 := Tryz.underlying109
  a46 := Tryz.isAgg109
  z46 := Tryz.sizeOf109
  v46 := Tryz.zeroValue109
  t51 := Tryz.underlying149
  a51 := Tryz.isAgg149
  z51 := Tryz.sizeOf149
  v51 := Tryz.zeroValue149
  t53 := Tryz.underlying33
  a53 := Tryz.isAgg33
  z53 := Tryz.sizeOf33
  v53 := Tryz.zeroValue33
  t171 := Tryz.underlying241
  a171 := Tryz.isAgg241
  z171 := Tryz.sizeOf241
  v171 := Tryz.zeroValue241
  t173 := Tryz.underlying244
  a173 := Tryz.isAgg244
  z173 := Tryz.sizeOf244
  v173 := Tryz.zeroValue244
  t212 := Tryz.underlying262
  a212 := Tryz.isAgg262
  z212 := Tryz.sizeOf262
  v212 := Tryz.zeroValue262
  t213 := Tryz.underlying263
  a213 := Tryz.isAgg263
  z213 := Tryz.sizeOf263
  t232 := Tryz.underlying322
  a232 := Tryz.isAgg322
  z232 := Tryz.sizeOf322
  v232 := Tryz.zeroValue322
  t233 := Tryz.underlying323
  a233 := Tryz.isAgg323
  z233 := Tryz.sizeOf323
  v233 := Tryz.zeroValue323
  g17 := by kernel_rfl
  g18 := by kernel_rfl
  g19 := by kernel_rfl
  i0 := by kernel_rfl
  i2 := by kernel_rfl
  i3 := by kernel_rfl
  i4 := by kernel_rfl
  i5 := by kernel_rfl
  i9 := by kernel_rfl
  i20 := by kernel_rfl
  i37 := by kernel_rfl
  i46 := by kernel_rfl
  i51 := by kernel_rfl
  i53 := by kernel_rfl
  i171 := by kernel_rfl
  i173 := by kernel_rfl
  i212 := by kernel_rfl
  i232 := by kernel_rfl
  i233 := by kernel_rfl
  m17 := by kernel_rfl
  m18 := by kernel_rfl
  m19 := by kernel_rfl
def xf : Go.Shelf.Ren := ⟨fun | 172 => 406 | 244 => 419 | 245 => 420 | 247 => 429 | 279 => 430 | 280 => 431 | 281 => 432 | 282 => 433 | 287 => 439 | 316 => 440 | 171 => 96 | 205 => 441 | 321 => 443 | 322 => 444 | 243 => 136 | 246 => 171 | 283 => 205 | 284 => 206 | 285 => 207 | 286 => 208 | 129 => 234 | 317 => 233 | 318 => 235 | 319 => 236 | 320 => 237 | 337 => 266 | 338 => 267 | n => n, fun | 9 => 9 | 3 => 3 | 75 => 389 | 76 => 390 | 4 => 4 | 5 => 5 | 167 => 408 | 37 => 56 | 0 => 0 | 85 => 409 | 2 => 2 | 168 => 411 | 53 => 33 | 175 => 416 | 46 => 109 | 210 => 420 | 127 => 423 | 145 => 426 | 143 => 424 | 21 => 21 | 171 => 241 | 173 => 244 | 212 => 262 | 51 => 149 | 20 => 20 | 213 => 263 | 232 => 322 | 233 => 323 | 80 => 178 | n => n, fun | 15 => 6 | 16 => 7 | 17 => 2 | 18 => 4 | 19 => 5 | n => n⟩
theorem vy : Go.Proofs.LaysC.n172 Tryz.prog xf where
  mixed := by kernel_rfl
  f129 := Tryz.func234.trans (congrArg some (by kernel_rfl))
  f171 := Tryz.func96.trans (congrArg some (by kernel_rfl))
  f172 := Tryz.func406.trans (congrArg some (by kernel_rfl))
  f205 := Tryz.func441.trans (congrArg some (by kernel_rfl))
  f243 := Tryz.func136.trans (congrArg some (by kernel_rfl))
  f244 := Tryz.func419.trans (congrArg some (by kernel_rfl))
  f245 := Tryz.func420.trans (congrArg some (by kernel_rfl))
  f246 := Tryz.func171.trans (congrArg some (by kernel_rfl))
  f247 := Tryz.func429.trans (congrArg some (by kernel_rfl))
  f279 := Tryz.func430.trans (congrArg some (by kernel_rfl))
  f280 := Tryz.func431.trans (congrArg some (by kernel_rfl))
  f281 := Tryz.func432.trans (congrArg some (by kernel_rfl))
  f282 := Tryz.func433.trans (congrArg some (by kernel_rfl))
  f283 := Tryz.func205.trans (congrArg some (by kernel_rfl))
  f284 := Tryz.func206.trans (congrArg some (by kernel_rfl))
  f285 := Tryz.func207.trans (congrArg some (by kernel_rfl))
  f286 := Tryz.func208.trans (congrArg some (by kernel_rfl))
  f287 := Tryz.func439.trans (congrArg some (by kernel_rfl))
  f316 := Tryz.func440.trans (congrArg some (by kernel_rfl))
  f317 := Tryz.func233.trans (congrArg some (by kernel_rfl))
  f318 := Tryz.func235.trans (congrArg some (by kernel_rfl))
  f319 := Tryz.func236.trans (congrArg some (by kernel_rfl))
  f320 := Tryz.func237.trans (congrArg some (by kernel_rfl))
  f321 := Tryz.func443.trans (congrArg some (by kernel_rfl))
  f322 := Tryz.func444.trans (congrArg some (by kernel_rfl))
  f337 := Tryz.func266.trans (congrArg some (by kernel_rfl))
  f338 := Tryz.func267.trans (congrArg some (by kernel_rfl))
  t0 := Tryz.underlying0
  a0 := Tryz.isAgg0
  z0 := Tryz.sizeOf0
  v0 := Tryz.zeroValue0
  t2 := Tryz.underlying2
  a2 := Tryz.isAgg2
  z2 := Tryz.sizeOf2
  v2 := Tryz.zeroValue2
  t3 := Tryz.underlying3
  a3 := Tryz.isAgg3
  z3 := Tryz.sizeOf3
  v3 := Tryz.zeroValue3
  t4 := Tryz.underlying4
  a4 := Tryz.isAgg4
  z4 := Tryz.sizeOf4
  v4 := Tryz.zeroValue4
  t5 := Tryz.underlying5
  a5 := Tryz.isAgg5
  z5 := Tryz.sizeOf5
  v5 := Tryz.zeroValue5
  t9 := Tryz.underlying9
  a9 := Tryz.isAgg9
  z9 := Tryz.sizeOf9
  v9 := Tryz.zeroValue9
  t20 := Tryz.underlying20
  a20 := Tryz.isAgg20
  z20 := Tryz.sizeOf20
  v20 := Tryz.zeroValue20
  t21 := Tryz.underlying21
  a21 := Tryz.isAgg21
  z21 := Tryz.sizeOf21
  v21 := Tryz.zeroValue21
  t37 := Tryz.underlying56
  a37 := Tryz.isAgg56
  z37 := Tryz.sizeOf56
  v37 := Tryz.zeroValue56
  t46 := Tryz.underlying109
  a46 := Tryz.isAgg109
  z46 := Tryz.sizeOf109
  v46 := Tryz.zeroValue109
  t51 := Tryz.underlying149
  a51 := Tryz.isAgg149
  z51 := Tryz.sizeOf149
  v51 := Tryz.zeroValue149
  t53 := Tryz.underlying33
  a53 := Tryz.isAgg33
  z53 := Tryz.sizeOf33
  v53 := Tryz.zeroValue33
  t75 := Tryz.underlying389
  a75 := Tryz.isAgg389
  z75 := Tryz.sizeOf389
  v75 := Tryz.zeroValue389
  t76 := Tryz.underlying390
  a76 := Tryz.isAgg390
  z76 := Tryz.sizeOf390
  v76 := Tryz.zeroValue390
  t85 := Tryz.underlying409
  a85 := Tryz.isAgg409
  z85 := Tryz.sizeOf409
  v85 := Tryz.zeroValue409
  t127 := Tryz.underlying423
  a127 := Tryz.isAgg423
  z127 := Tryz.sizeOf423
  v127 := Tryz.zeroValue423
  t143 := Tryz.underlying424
  a143 := Tryz.isAgg424
  z143 := Tryz.sizeOf424
  v143 := Tryz.zeroValue424
  t145 := Tryz.underlying426
  a145 := Tryz.isAgg426
  z145 := Tryz.sizeOf426
  v145 := Tryz.zeroValue426
  t167 := Tryz.underlying408
  a167 := Tryz.isAgg408
  z167 := Tryz.sizeOf408
  v167 := Tryz.zeroValue408
  t168 := Tryz.underlying411
  a168 := Tryz.isAgg411
  z168 := Tryz.sizeOf411
  v168 := Tryz.zeroValue411
  t171 := Tryz.underlying241
  a171 := Tryz.isAgg241
  z171 := Tryz.sizeOf241
  v171 := Tryz.zeroValue241
  t173 := Tryz.underlying244
  a173 := Tryz.isAgg244
  z173 := Tryz.sizeOf244
  v173 := Tryz.zeroValue244
  t175 := Tryz.underlying416
  a175 := Tryz.isAgg416
  z175 := Tryz.sizeOf416
  v175 := Tryz.zeroValue416
  t210 := Tryz.underlying420
  a210 := Tryz.isAgg420
  z210 := Tryz.sizeOf420
  v210 := Tryz.zeroValue420
  t212 := Tryz.underlying262
  a212 := Tryz.isAgg262
  z212 := Tryz.sizeOf262
  v212 := Tryz.zeroValue262
  t213 := Tryz.underlying263
  a213 := Tryz.isAgg263
  z213 := Tryz.sizeOf263
  t232 := Tryz.underlying322
  a232 := Tryz.isAgg322
  z232 := Tryz.sizeOf322
  v232 := Tryz.zeroValue322
  t233 := Tryz.underlying323
  a233 := Tryz.isAgg323
  z233 := Tryz.sizeOf323
  v233 := Tryz.zeroValue323
  g15 := by kernel_rfl
  g16 := by kernel_rfl
  g17 := by kernel_rfl
  g18 := by kernel_rfl
  g19 := by kernel_rfl
  t80 := Tryz.underlying178
  a80 := Tryz.isAgg178
  z80 := Tryz.sizeOf178
  v80 := Tryz.zeroValue178
  i0 := by kernel_rfl
  i2 := by kernel_rfl
  i3 := by kernel_rfl
  i4 := by kernel_rfl
  i5 := by kernel_rfl
  i9 := by kernel_rfl
  i20 := by kernel_rfl
  i21 := by kernel_rfl
  i37 := by kernel_rfl
  i46 := by kernel_rfl
  i51 := by kernel_rfl
  i53 := by kernel_rfl
  i75 := by kernel_rfl
  i76 := by kernel_rfl
  i80 := by kernel_rfl
  i85 := by kernel_rfl
  i127 := by kernel_rfl
  i143 := by kernel_rfl
  i145 := by kernel_rfl
  i167 := by kernel_rfl
  i168 := by kernel_rfl
  i171 := by kernel_rfl
  i173 := by kernel_rfl
  i175 := by kernel_rfl
  i210 := by kernel_rfl
  i212 := by kernel_rfl
  i232 := by kernel_rfl
  i233 := by kernel_rfl
  m15 := by kernel_rfl
  m16 := by kernel_rfl
  m17 := by kernel_rfl
  m18 := by kernel_rfl
  m19 := by kernel_rfl
  c0 := by kernel_rfl
  c2 := by kernel_rfl
  c3 := by kernel_rfl
  c4 := by kernel_rfl
  c5 := by kernel_rfl
  c9 := by kernel_rfl
  c20 := by kernel_rfl
  c21 := by kernel_rfl
  c37 := by kernel_rfl
  c46 := by kernel_rfl
  c51 := by kernel_rfl
  c53 := by kernel_rfl
  c75 := by kernel_rfl
  c76 := by kernel_rfl
  c80 := by kernel_rfl
  c85 := by kernel_rfl
  c127 := by kernel_rfl
  c143 := by kernel_rfl
  c145 := by kernel_rfl
  c167 := by kernel_rfl
  c168 := by kernel_rfl
  c171 := by kernel_rfl
  c173 := by kernel_rfl
  c175 := by kernel_rfl
  c210 := by kernel_rfl
  c212 := by kernel_rfl
  c213 := by kernel_rfl
  c232 := by kernel_rfl
  c233 := by kernel_rfl
def xy : Go.Shelf.Ren := ⟨fun | 137 => 181 | 217 => 216 | 266 => 239 | n => n, fun | 9 => 9 | 5 => 5 | 3 => 3 | n => n, fun | n => n⟩
theorem ixbLay : Go.Proofs.Lays.n137 Tryz.prog xy where
  mixed := by kernel_rfl
  f137 := Tryz.func181.trans (congrArg some (by kernel_rfl))
  f217 := Tryz.func216.trans (congrArg some (by kernel_rfl))
  f266 := Tryz.func239.trans (congrArg some (by kernel_rfl))
  t3 := Tryz.underlying3
  a3 := Tryz.isAgg3
  z3 := Tryz.sizeOf3
  v3 := Tryz.zeroValue3
  t5 := Tryz.underlying5
  a5 := Tryz.isAgg5
  z5 := Tryz.sizeOf5
  v5 := Tryz.zeroValue5
  t9 := Tryz.underlying9
  a9 := Tryz.isAgg9
  z9 := Tryz.sizeOf9
  v9 := Tryz.zeroValue9
end Go.Mach
set_option maxRecDepth 10000
namespace Go.Mach
open Go.Proofs Go.Shelf
theorem gPow : Tryz.prog.globalNamed "internal/strconv.uint64pow10" = some 2 := by kernel_rfl
theorem gSyn : Tryz.prog.globalNamed "strconv.ErrSyntax" = some 6 := by kernel_rfl
theorem gRng : Tryz.prog.globalNamed "strconv.ErrRange" = some 7 := by kernel_rfl
def tk : pR where
  n := 8
  holds w := Lib.TabIs Tryz.prog w "internal/strconv.uint64pow10" .u64 Lib.pow10Tab ∧
    (∃ tp p, World.var? Tryz.prog w "strconv.ErrSyntax" = some #[.iface tp p]) ∧ ∃ tp p, World.var? Tryz.prog w "strconv.ErrRange" = some #[.iface tp p]
  mono := fun w w' h ⟨h2, ⟨t3, p3, h3⟩, t4, p4, h4⟩ => by
    refine ⟨?_, ⟨t3, p3, ?_⟩, t4, p4, ?_⟩
    · simp only [Lib.TabIs, World.var?, gPow, Option.bind_some, h 2 (by decide)] at h2 ⊢; exact h2
    · simp only [World.var?, gSyn, Option.bind_some, h 6 (by decide)] at h3 ⊢; exact h3
    · simp only [World.var?, gRng, Option.bind_some, h 7 (by decide)] at h4 ⊢; exact h4
theorem zN {n : Int} (h : dk .i64 n = true) : -9223372036854775808 ≤ n ∧ n ≤ 9223372036854775807 := by
  have h : IntKind.wrap .i64 n = n := by simpa [dk] using h
  have h1 : ∀ m, -9223372036854775808 ≤ IntKind.wrap .i64 m ∧ IntKind.wrap .i64 m ≤ 9223372036854775807 := by
    intro m
    have e : IntKind.wrap .i64 m = (m + 2 ^ 63) % 2 ^ 64 - 2 ^ 63 := by
      simp only [IntKind.wrap, IntKind.signed, IntKind.bits]; first | rfl | (simp; try omega)
    rw [e]
    constructor <;> omega
  rw [← h]; exact h1 n
theorem vN {n : Int} (h0 : -9223372036854775808 ≤ n) (h1 : n ≤ 9223372036854775807) : dk .i64 n = true := by
  have e : IntKind.wrap .i64 n = (n + 2 ^ 63) % 2 ^ 64 - 2 ^ 63 := by
    simp only [IntKind.wrap, IntKind.signed, IntKind.bits]; first | rfl | (simp; try omega)
  simp only [dk, e, beq_iff_eq]
  omega
theorem xD {n : Nat} (h : ll n = true) : n ≤ 140737488355328 := by
  simp only [ll, decide_eq_true_eq] at h; omega
theorem AK {n : Nat} (h : n ≤ 140737488355328) : ll n = true := by
  simp only [ll, decide_eq_true_eq]; omega
theorem yw {w : World} {Z Y S : Nat → Prop} {v : Value} {x : List UInt8} (h : ox w Z Y (false, .frz .str) v x S) : v = ln x ∧ ll x.length = true := by
  obtain ⟨us, h1, h2, h3⟩ := h
  have h1 : us = [v] := h1
  subst h1
  have h3 : [v] = [ln x] ∧ ll x.length = true := h3
  exact ⟨by simpa using h3.1, h3.2⟩
theorem BL {w : World} {Z Y S : Nat → Prop} {v : Value} {x : Int} (h : ox w Z Y (false, .frz (.int .i64)) v x S) : v = .int .i64 x ∧ dk .i64 x = true := by
  obtain ⟨us, h1, h2, h3⟩ := h
  have h1 : us = [v] := h1
  subst h1
  have h3 : [v] = [.int .i64 x] ∧ dk .i64 x = true := h3
  exact ⟨by simpa using h3.1, h3.2⟩
theorem str_mk {w : World} {Z Y S : Nat → Prop} {x : List UInt8} (h : ll x.length = true) : ox w Z Y (false, .frz .str) (ln x) x S := ⟨[ln x], rfl, rfl, rfl, h⟩
theorem Ay {w : World} {Z Y S : Nat → Prop} {x : Int} (h : dk .i64 x = true) : ox w Z Y (false, .frz (.int .i64)) (.int .i64 x) x S := ⟨[.int .i64 x], rfl, rfl, rfl, h⟩
theorem err_mk {w : World} {Z Y S : Nat → Prop} {v : Value} {b : Bool} (h1 : v.cells = #[v]) (h : yR b v) : ox w Z Y (false, .err) v b S := ⟨[v], rfl, rfl, v, rfl, h⟩
theorem sw {w w' : World} {Z S : Nat → Prop} {ps : List Par} {rs : List VSh} {args : List Value} {e : Ending} {v : Value} {kO : List Value} {Ψ : outs (lA rs) (boxes ps) → Prop} {y : outs (lA rs) (boxes ps)}
    (he : e = .returned v) (hΨ : Ψ y) (hret : wY rs v kO) (hv : lH w' Z (fun _ => False) rs kO (lx (boxes ps) y) (fun _ => False)) (ho : lu w' Z (fun _ => False) ps args y (fun _ => False))
    (hZ : ∀ b, Z b → b < w.heap.size) (hsz : w.heap.size ≤ w'.heap.size) (hk : ∀ b, b < w.heap.size → w'.heap[b]? = w.heap[b]?) (hio : Io w w') :
    ∃ y v kO, ∃ Z' S1 S2 : Nat → Prop, e = .returned v ∧ Ψ y ∧ wY rs v kO ∧
      lH w' Z' (fun _ => False) rs kO (lx (boxes ps) y) S1 ∧ lu w' Z' (fun _ => False) ps args y S2 ∧ (∀ d, S1 d → S2 d → False) ∧
      (∀ b, S1 b ∨ S2 b → b < w'.heap.size ∧ ¬ Z' b ∧ (S b ∨ w.heap.size ≤ b)) ∧ (∀ b, Z b → Z' b) ∧ (∀ b, Z' b → b < w'.heap.size ∧ (Z b ∨ S b ∨ w.heap.size ≤ b)) ∧
      w.heap.size ≤ w'.heap.size ∧ (∀ b, b < w.heap.size → ¬ S b → w'.heap[b]? = w.heap[b]?) ∧ Io w w' :=
  ⟨y, v, kO, Z, fun _ => False, fun _ => False, he, hΨ, hret, hv, ho, fun _ h => h.elim, fun b hb => by rcases hb with hb | hb <;> exact hb.elim, fun _ h => h, fun b hb => ⟨Nat.lt_of_lt_of_le (hZ b hb) hsz, .inl hb⟩, hsz, fun b hb _ => hk b hb, hio⟩
theorem Ak : iV Tryz.prog tk (pP 96) := by
  refine ⟨⟨Tryz.f96, by kernel_rfl, by kernel_rfl, by kernel_rfl⟩, rfl, fun w Z Y S args x Ψ hsat hG hZ hY hS hV => ?_⟩
  obtain ⟨v, rfl, hv⟩ := hV
  have hv : ox w Z Y (false, .frz (.int .i64)) v x S := hv
  obtain ⟨rfl, hr⟩ := BL hv
  obtain ⟨h0, h1⟩ := zN hr
  have hΨ : Ψ (Lib.itoa x) := hsat
  have hc := Any.strconv_Itoa BK x h0 h1 w hG.1.1
  change Calls Tryz.prog 96 _ _ _ at hc
  refine hc.mono ?_
  rintro e w' ⟨rfl, k, os, rfl⟩
  refine sw (ps := qD.ps) (rs := qD.rs) rfl hΨ rfl ⟨ln (Lib.itoa x), rfl, str_mk (AK (Nat.le_trans (Lib.itoa_length_le x h0 h1) (by omega)))⟩ ⟨_, _, rfl, trivial⟩ hZ ?_ ?_ ⟨rfl, rfl, rfl⟩
  · show w.heap.size ≤ (w.heap ++ os).size
    rw [Array.size_append]; omega
  · intro b hb
    show (w.heap ++ os)[b]? = _
    rw [Array.getElem?_append_left hb]
theorem u8_inv {w : World} {Z Y S : Nat → Prop} {v : Value} {x : Int} (h : ox w Z Y (false, .frz (.int .u8)) v x S) : v = .int .u8 x := by
  obtain ⟨us, h1, h2, h3⟩ := h
  have h1 : us = [v] := h1
  subst h1
  have h3 : [v] = [.int .u8 x] ∧ dk .u8 x = true := h3
  simpa using h3.1
theorem tO (l : List UInt8) (c : UInt8) : -1 ≤ Lib.indexByte l c ∧ Lib.indexByte l c < l.length ∨ Lib.indexByte l c = -1 := by
  induction l with
  | nil => right; rfl
  | cons b l ih =>
    unfold Lib.indexByte
    simp only [List.length_cons]
    split
    · left; omega
    · split
      · right; rfl
      · left; rcases ih with h | h
        · omega
        · rename_i h2; rw [h] at h2; simp at h2
theorem ixb_ok : iV Tryz.prog tk (wR 181) := by
  refine ⟨⟨Tryz.f181, by kernel_rfl, by kernel_rfl, by kernel_rfl⟩, rfl, fun w Z Y S args x Ψ hsat hG hZ hY hS hV => ?_⟩
  obtain ⟨x1, x2⟩ := x
  obtain ⟨v, vs', S1, S2, rfl, _, _, _, hv, v2, rfl, hv2⟩ := hV
  have hv : ox w Z Y (false, .frz .str) v x1 S1 := hv
  have hv2 : ox w Z Y (false, .frz (.int .u8)) v2 x2 S2 := hv2
  obtain ⟨rfl, hr⟩ := yw hv
  obtain rfl := u8_inv hv2
  have hΨ : Ψ (Lib.indexByte x1 x2.toNat.toUInt8) := hsat
  have hx := xD hr
  have hi := tO x1 x2.toNat.toUInt8
  have hrg : dk .i64 (Lib.indexByte x1 x2.toNat.toUInt8) = true := vN (by omega) (by omega)
  have hc := Any.strings_IndexByte ixbLay ⟨⟨x1⟩⟩ x2 w
  change Calls Tryz.prog 181 _ _ _ at hc
  refine hc.mono ?_
  rintro e w' ⟨rfl, rfl⟩
  exact sw (ps := ixb.ps) (rs := ixb.rs) rfl hΨ rfl ⟨_, rfl, Ay hrg⟩ ⟨_, _, rfl, _, _, rfl, trivial⟩ hZ (Nat.le_refl _) (fun _ _ => rfl) ⟨rfl, rfl, rfl⟩
theorem vA (l : List UInt8) : dk .i64 (Lib.atoiSat l) = true := by
  unfold Lib.atoiSat
  split <;> decide
theorem AQ : iV Tryz.prog tk (sX 406) := by
  refine ⟨⟨Tryz.f406, by kernel_rfl, by kernel_rfl, by kernel_rfl⟩, rfl, fun w Z Y S args x Ψ hsat hG hZ hY hS hV => ?_⟩
  obtain ⟨v, rfl, hv⟩ := hV
  have hv : ox w Z Y (false, .frz .str) v x S := hv
  obtain ⟨rfl, hr⟩ := yw hv
  have hx := xD hr
  have hsat : (sI x).sat Ψ := hsat
  unfold sI at hsat
  have fin : ∀ (n : Int) (b : Bool) (u : Value) (w' : World), dk .i64 n = true → yR b u → u.cells = #[u] → Ψ (n, b) → RowKit.Below w.heap.size w w' → ∃ y v kO, ∃ Z' S1 S2 : Nat → Prop, Ending.returned (.tuple #[.int .i64 n, u]) = .returned v ∧ Ψ y ∧ wY pI.rs v kO ∧
      lH w' Z' (fun _ => False) pI.rs kO (lx (boxes pI.ps) y) S1 ∧ lu w' Z' (fun _ => False) pI.ps [ln x] y S2 ∧ (∀ d, S1 d → S2 d → False) ∧
      (∀ b, S1 b ∨ S2 b → b < w'.heap.size ∧ ¬ Z' b ∧ (S b ∨ w.heap.size ≤ b)) ∧ (∀ b, Z b → Z' b) ∧ (∀ b, Z' b → b < w'.heap.size ∧ (Z b ∨ S b ∨ w.heap.size ≤ b)) ∧
      w.heap.size ≤ w'.heap.size ∧ (∀ b, b < w.heap.size → ¬ S b → w'.heap[b]? = w.heap[b]?) ∧ Io w w' := fun n b u w' h1 h2 h3 h4 h5 =>
    sw (ps := pI.ps) (rs := pI.rs) (kO := [.int .i64 n, u]) rfl h4 rfl ⟨_, _, fun _ => False, fun _ => False, rfl, fun _ h => h, fun _ h => h, fun _ h _ => h, Ay h1, _, rfl, err_mk h3 h2⟩ ⟨_, _, rfl, trivial⟩ hZ h5.size h5.block ⟨h5.os, h5.output, h5.tape⟩
  rcases ha : Lib.atoiAll x with n | _ | _
  · rw [ha] at hsat
    obtain ⟨b1, b2⟩ := Lib.atoiAll_bounds ha
    have hc := Any.strconv_Atoi_ok vy ⟨⟨x⟩⟩ (show x.length ≤ _ by omega) n ha w
    change Calls Tryz.prog 406 _ _ _ at hc
    refine hc.mono ?_
    rintro e w' ⟨rfl, hw⟩
    refine fin n true .nilIface w' (vN b1 b2) (.inl ⟨rfl, rfl⟩) rfl hsat ?_
    rcases hw with rfl | ⟨t, rfl⟩
    · exact ⟨rfl, rfl, rfl, Nat.le_refl _, fun _ _ => rfl⟩
    · exact Lib.bytesWorld_below _ _ _
  · rw [ha] at hsat
    obtain ⟨tp, p, hp⟩ := hG.1.2.1
    have hc := Any.strconv_Atoi_syntax_var vy ⟨⟨x⟩⟩ (show x.length ≤ _ by omega) ha tp p w hp
    change Calls Tryz.prog 406 _ _ _ at hc
    refine hc.mono ?_
    rintro e w' ⟨N, rfl, _, _, hb⟩
    exact fin 0 false _ w' (by decide) (.inr ⟨rfl, _, _, rfl⟩) rfl hsat hb
  · rw [ha] at hsat
    obtain ⟨tp, p, hp⟩ := hG.1.2.2
    have hc := Any.strconv_Atoi_range_var vy ⟨⟨x⟩⟩ (show x.length ≤ _ by omega) ha tp p w hp
    change Calls Tryz.prog 406 _ _ _ at hc
    refine hc.mono ?_
    rintro e w' ⟨N, rfl, _, _, hb⟩
    exact fin (Lib.atoiSat x) false _ w' (vA x) (.inr ⟨rfl, _, _, rfl⟩) rfl hsat hb
end Go.Mach
namespace Go.Mach
def zC (T : TypeId) : Code := .region 0 #[{ dst := some 2, op := .assign (.const (.slice none 0 0)), type := T, pos := "slices.go:355", after := #[], guard := none }] false
def zP (T B : TypeId) : Code := .region 1 #[{ dst := some 3, op := .move (.tmp 0), type := T, pos := "slices.go:357", after := #[], guard := none },
  { dst := some 4, op := .binOp .eql T (.tmp 3) (.const (.slice none 0 0)) T, type := B, pos := "slices.go:357", after := #[{ on := 0, ground := .data }], guard := none }] false
def Ad (T : TypeId) : Code := (Code.region 2 #[{ dst := some 2, op := .assign (.const (.slice none 0 0)), type := T, pos := "slices.go:358", after := #[], guard := none }] false).seq .ret
def pE (T : TypeId) : Code := (Code.region 3 #[{ dst := some 5, op := .buildSlice T 0 #[], type := T, pos := "slices.go:362", after := #[], guard := none },
  { dst := some 6, op := .move (.tmp 0), type := T, pos := "slices.go:362", after := #[], guard := none },
  { dst := some 7, op := .call { callee := .builtin .append, args := #[.tmp 5, .tmp 6], argTypes := #[T, T] }, type := T, pos := "slices.go:362", after := #[{ on := 0, ground := .data }, { on := 1, ground := .data }], guard := none },
  { dst := some 2, op := .assign (.tmp 7), type := T, pos := "slices.go:362", after := #[{ on := 2, ground := .data }, { on := 2, ground := .chain }, { on := 0, ground := .phase }, { on := 1, ground := .phase }, { on := 2, ground := .phase }], guard := none }] false).seq .ret
def vm (T B : TypeId) : Code := (zC T).seq (((zP T B).seq (.cond (.tmp 4) (Ad T) .skip)).seq (pE T))
theorem rZ {P : Program} {ops : Array Oper} {Q : Exit → Act → World → Prop} {i : Nat} {rest : List Nat} {o : Oper} {a : Act} {w : World} {v : Value} (ho : ops[i]? = some o) (hg : o.guard = none) (h : (execOp a.eval o).run P w = .ok (.value v) w)
    (hn : wpOps P ops Q rest (a.put o.dst v) w) : wpOps P ops Q (i :: rest) a w := by
  simp only [wpOps, ho]
  rw [show Region.wanted o (yielded ops a.tmps) = true from by unfold Region.wanted; rw [hg]]
  simp only [if_true]
  exact .inl (mv h hn)
theorem yF {P : Program} {T B : TypeId} {w : World} {v0 : Value} {b : Bool} {Q : Exit → Act → World → Prop} {a : Act} (h0 : a.eval (.tmp 0) = v0) (hsz : a.tmps.size = 8)
    (hb : (binOp .eql T v0 (.slice none 0 0)).run P w = .ok (.bool b) w) (hgd : (eqGuard .eql T (.tmp 3) (.const (.slice none 0 0)) v0 (.slice none 0 0)).run P w = .ok () w)
    (ht : b = true → Q .ret ((((a.put (some 2) (.slice none 0 0)).put (some 3) v0).put (some 4) (.bool b)).put (some 2) (.slice none 0 0)) w)
    (hf : b = false → (pE T).wp P Q (((a.put (some 2) (.slice none 0 0)).put (some 3) v0).put (some 4) (.bool b)) w) : (vm T B).wp P Q a w := by
  have e2 : ∀ (a : Act) (d : Nat) (v : Value) (t : Nat), t < a.tmps.size → (a.put (some d) v).eval (.tmp t) = if d = t then v else a.eval (.tmp t) := by
    intro a d v t ht
    simp only [Act.eval, Act.put]
    by_cases hd : d = t
    · subst hd; simp [ht]
    · simp [hd, Array.getElem?_setIfInBounds_ne hd]
  have s2 : ∀ (a : Act) (d : Nat) (v : Value), (a.put (some d) v).tmps.size = a.tmps.size := by intro a d v; simp [Act.put]
  refine wp_seq (wp_region (rZ (o := _) (v := .slice none 0 0) rfl rfl (by rfl) ?_))
  show Exit.then _ Q .normal _ w
  refine wp_seq (wp_seq (wp_region (rZ (o := _) (v := v0) rfl rfl ?_ ?_)))
  · have hv0 : (a.put (some 2) (.slice none 0 0)).eval (.tmp 0) = v0 := by rw [e2 _ _ _ _ (by omega)]; simpa using h0
    exact congrArg (fun v => Result.ok (Next.value v) w) hv0
  have hv3 : ((a.put (some 2) (.slice none 0 0)).put (some 3) v0).eval (.tmp 3) = v0 := by rw [e2 _ _ _ _ (by rw [s2]; omega)]; simp
  have hrun := oY (E := { P := P, specs := [], ety := fun _ => none }) (w := w) (a := (a.put (some 2) (.slice none 0 0)).put (some 3) v0) (o := { dst := some 4, op := .binOp .eql T (.tmp 3) (.const (.slice none 0 0)) T, type := B, pos := "slices.go:357", after := #[{ on := 0, ground := .data }], guard := none }) (v := .bool b) rfl (by rw [hv3]; exact hgd) (by rw [hv3]; exact hb)
  refine rZ (o := _) (v := .bool b) rfl rfl hrun ?_
  show Exit.then _ _ .normal _ w
  have h4 : (((a.put (some 2) (.slice none 0 0)).put (some 3) v0).put (some 4) (.bool b)).eval (.tmp 4) = .bool b := by
    rw [e2 _ _ _ _ (by rw [s2, s2]; omega)]; simp
  cases b with
  | true => exact wp_cond_true h4 (wp_seq (wp_region (rZ (o := _) (v := .slice none 0 0) rfl rfl (by rfl) (wp_ret (ht rfl)))))
  | false => exact wp_cond_false h4 (wp_skip (hf rfl))
end Go.Mach
namespace Go.Mach
theorem su {P : Program} {sp : Spec} {fn : Func} {w w' : World} {Z Z' Y S : Nat → Prop} {args : List Value} {vs : List AV} {s : St} {a' : Act} {μ1 μ' : bL} {G : pR} {hg : G.holds w ∧ ∀ b, b < G.n → Z b ∧ b < w.heap.size ∧ ¬ S b} {Ψ : outs (lA sp.rs) (boxes sp.ps) → Prop}
    (hnb : (sp.rs.all fun s => s.2.oF) = true) (hnb2 : (boxes sp.ps).all Sh.oF = true) (hres : fn.results.toList.all (vh P) = true)
    (hZ : ∀ b, Z b → b < w.heap.size) (hS : ∀ b, S b → b < w.heap.size ∧ ¬ Z b) (e3 : ARs w Z μ1 vs args) (hobjc : zS sp.ps vs) (hext' : cb μ1 μ') (hR' : Rel ⟨w, S, Z, Y, G, hg⟩ s a' w' Z' μ') (hs : (fin P fn sp.ps sp.rs vs s).sat Ψ) :
    a'.defers = [] ∧ ∃ v, (results fn a'.tmps).run P w' = .ok v w' ∧ (∃ y v' kO, ∃ Z' S1 S2 : Nat → Prop, Ending.returned v = .returned v' ∧ Ψ y ∧ wY sp.rs v' kO ∧
      lH w' Z' (fun _ => False) sp.rs kO (lx (boxes sp.ps) y) S1 ∧ lu w' Z' (fun _ => False) sp.ps args y S2 ∧ (∀ d, S1 d → S2 d → False) ∧
      (∀ b, S1 b ∨ S2 b → b < w'.heap.size ∧ ¬ Z' b ∧ (S b ∨ w.heap.size ≤ b)) ∧ (∀ b, Z b → Z' b) ∧ (∀ b, Z' b → b < w'.heap.size ∧ (Z b ∨ S b ∨ w.heap.size ≤ b)) ∧
      w.heap.size ≤ w'.heap.size ∧ (∀ b, b < w.heap.size → ¬ S b → w'.heap[b]? = w.heap[b]?) ∧ Io w w') := by
  unfold fin at hs
  obtain ⟨xs, kO, hrun, hxs, hs⟩ := oT hR' fn.results.toList hres hs
  split at hs
  case h_2 => exact hs.elim
  rename_i y m1 hgt
  split at hs
  case h_2 => exact hs.elim
  rename_i z ho
  obtain ⟨Z1, F1, S1, a1, a2, a3, a4, a5, a6, a7⟩ := pX hR'.mem (cx.none ⟨w, S, Z, Y, G, hg⟩ s.mem w' Z' μ') hxs hgt
  have hsame : bN Z w w' := fun b hb => a1.qy b (hZ b hb) fun hS' => (hS b hS').2 hb
  obtain ⟨m2, Z2, F2, S2, b1, b2, b3, b4, b5, b6, b7⟩ := oB (ps := sp.ps) a1 a2 (e3.mono hsame a1.rQ hext') hobjc ho
  obtain ⟨v, hv, hret⟩ := uy (rs := sp.rs) hrun a7.len
  refine ⟨hR'.df, v, hv, z, v, kO, Z2, S1, S2, rfl, hs, hret, ?_, b6.noY hnb2, fun d h1 h2 => (b5 d h2).2 (a5 d h1).1, fun b hb => ?_, b1.rQ, fun b hb => ?_, b1.size, b1.qy, b1.io⟩
  · rw [b7]
    exact (a7.up b3).noY hnb
  · have hF : F2 b := by
      rcases hb with hb | hb
      · exact b4 b (a5 b hb).1
      · exact (b5 b hb).1
    obtain ⟨c1, c2, c3⟩ := b2.ok b hF
    exact ⟨c2, c1, c3.symm⟩
  · obtain ⟨c1, c2⟩ := b1.frz b hb
    exact ⟨c1, c2.imp id Or.symm⟩
@[reducible] def rH (e : Ty) : List Par := [.val false (.bor (.own (.frz e)))]
@[reducible] def uL (e : Ty) : List VSh := [(false, .own (.frz e))]
def sM (f : FuncId) (e : Ty) (g : List e.den → Bool) : Spec := ⟨f, rH e, uL e, fun x => Res.ai (g x) (Res.ok x)⟩
def wA (n : Nat) : List AV := List.replicate n (.c .undef)
theorem mK {P : Program} {G : pR} {f : FuncId} {fn : Func} {e : Ty} {T B el : TypeId} {g : List e.den → Bool} {ety : TypeId → Option Sh} (hm : P.follows .mixedOrders = true) (hfn : P.funcs[f]? = some fn) (hcode : fn.body = some (vm T B))
    (hname : (fn.name == "runtime.NumGoroutine") = false) (hresE : fn.results = #[.tmp 2]) (hnt : fn.ntmps = 8) (hT : P.underlying T = some (.slice el))
    (hcopy : ∀ xs : List e.den, exec { P := P, specs := [], ety := ety } (pE T) (List e.den) .none ⟨.c (.ref 0 .full) :: wA 7, ⟨[.bor (.frz e) xs], 0, 1⟩, []⟩ { nrm := fin P fn (rH e) (uL e) [.c (.ref 0 .full)], ext := fun _ _ => .stuck, ret := fin P fn (rH e) (uL e) [.c (.ref 0 .full)] } = Res.ai (g xs) (.ok xs)) :
    iV P G (sM f e g) := by
  refine ⟨⟨fn, hfn, by rw [hcode]; rfl, hname⟩, rfl, fun w Z Y S args x Ψ hsat hG hZ hY hS hV => ?_⟩
  have hres : fn.results.toList.all (vh P) = true := by rw [hresE]; rfl
  have hV' := hV
  obtain ⟨v0, rfl, us, hus, hlen1, hbr⟩ := hV
  have hus : us = [v0] := hus
  subst hus
  have hbr : BR w Z (fun b => Y b ∨ Z b) (.own (.frz e)) [v0] x := hbr
  simp only [BR] at hbr
  obtain ⟨ad, cap, h1, h2, h3, h4⟩ := hbr
  simp only [List.cons.injEq, and_true] at h1
  let Bs : gn := ⟨w, S, Z, Y, G, hG.1, fun b hb => ⟨hG.2 b hb, hZ b (hG.2 b hb), fun h => (hS b h).2 (hG.2 b hb)⟩⟩
  have hE : ∀ sp ∈ ({ P := P, specs := [], ety := ety } : Env).specs, iV ({ P := P, specs := [], ety := ety } : Env).P G sp := fun sp h => by cases h
  let m0 : Mem := ⟨[eD.dead], 0, 0⟩
  have hdead : ∀ (r : Nat) (y : eD), m0.roots[r]? = some y → y = eD.dead := fun r y hy => by
    have hy : [eD.dead][r]? = some y := hy
    cases r with
    | zero => simpa using hy.symm
    | succ r => simp at hy
  have hM0 : cD Bs m0 w Z (fun _ => none) :=
    ⟨(fun r y hy hd => absurd (hdead r y hy) hd), (fun r s y z ℓ ℓ' _ hy _ _ _ hl => by cases hl), (fun r y ℓ b _ _ hl => by cases hl), fun b hb => ⟨hZ b hb, .inl hb⟩, fun b hb => hb, Nat.le_refl _, fun b _ _ => rfl, fun _ _ => rfl, fun b hb => hY b hb, Io.refl _⟩
  have hL0 : cx Bs m0 w Z (fun _ => none) S := by
    refine ⟨fun b hb => ⟨(hS b hb).2, (hS b hb).1, .inr hb⟩, fun b r hb => ?_⟩
    rintro ⟨y, ℓ, _, _, hl, _⟩
    cases hl
  have hF0 : kz m0 (fun _ => none) (nN ((rH e).map Par.v)) := fun k hk => ⟨rfl, by
    have hk : k < 1 := hk
    have : k = 0 := by omega
    subst this; rfl⟩
  obtain ⟨μ1, e1, _, e3, _⟩ := qp hM0 hL0 hF0 hV' (fun _ h => h)
  have e1 : cD Bs ⟨[.bor (.frz e) x], 0, 1⟩ w Z μ1 := e1
  have e3 : ARs w Z μ1 [.c (.ref 0 .full)] [v0] := e3
  let st : St := ⟨.c (.ref 0 .full) :: wA 7, ⟨[.bor (.frz e) x], 0, 1⟩, []⟩
  have hsz : ([v0].toArray ++ Array.replicate (fn.ntmps - [v0].toArray.size) undef).size = 8 := by rw [hnt]; rfl
  have hev0 : (Act.eval { tmps := [v0].toArray ++ Array.replicate (fn.ntmps - [v0].toArray.size) undef, defers := [] } (.tmp 0)) = v0 := by rw [hnt]; rfl
  have hR : Rel Bs st { tmps := [v0].toArray ++ Array.replicate (fn.ntmps - [v0].toArray.size) undef, defers := [] } w Z μ1 := by
    refine ⟨e1, fun i z hz => ?_, ?_, rfl⟩
    · have hz : (AV.c (.ref 0 .full) :: wA 7)[i]? = some z := hz
      cases i with
      | zero =>
        simp only [List.getElem?_cons_zero, Option.some.injEq] at hz
        subst hz
        obtain ⟨v', hv', har⟩ := ARs.at_ e3 0 _ rfl
        have : v' = v0 := by simpa using hv'.symm
        subst this
        rw [hnt]; exact har
      | succ i =>
        simp only [List.getElem?_cons_succ, wA, List.getElem?_replicate] at hz
        split at hz
        · cases hz; exact AR.undef _
        · cases hz
    · rw [hsz]; rfl
  have hob : zS (rH e) [.c (.ref 0 .full)] := trivial
  refine calls_of_wp hfn hcode ?_
  have hb : (binOp .eql T v0 (.slice none 0 0)).run P w = .ok (.bool ad.isNone) w := by
    rw [h1]
    cases ad with
    | none => exact (nX (w := w) (P := P) (t := T) (v := .slice none _ cap) (u := .slice none 0 0) (b := true) (by rintro op (rfl | rfl) <;> rfl) ((fun d => by simp [Op.equalIn, run_underlying hT] : ∀ d, (Op.equalIn (d + 1) T _ _).run P w = .ok _ w) 9999)).1
    | some p => exact (nX (w := w) (P := P) (t := T) (v := .slice (some p) _ cap) (u := .slice none 0 0) (b := false) (by rintro op (rfl | rfl) <;> rfl) ((fun d => by simp [Op.equalIn, run_underlying hT] : ∀ d, (Op.equalIn (d + 1) T _ _).run P w = .ok _ w) 9999)).1
  refine yF (b := ad.isNone) hev0 hsz hb (by rw [h1]; rfl) (fun hn => ?_) (fun hn => ?_)
  · have hx : x = [] := by
      rcases h4 with h4 | ⟨b, o, h4, _⟩
      · exact h4
      · rw [h4] at hn; cases hn
    subst hx
    have hΨ : Ψ ([] : List e.den) := by
      have : (Res.ai (g []) (Res.ok ([] : List e.den))).sat Ψ := hsat
      exact (ji this).2
    have hR4 := (((hR.rr (some 2) (AR.undef (.slice none 0 0))).rr (some 3) (AR.undef v0)).rr (some 4) (AR.undef (.bool ad.isNone))).rr (some 2) (x := .c .ng) (v := .slice none 0 0) rfl
    refine su (sp := sM f e g) (Ψ := Ψ) (vs := [.c (.ref 0 .full)]) (args := [v0]) rfl rfl hres hZ hS e3 hob (cb.refl _) hR4 ?_
    unfold fin
    rw [hresE]
    exact hΨ
  · have hR3 := ((hR.rr (some 2) (AR.undef (.slice none 0 0))).rr (some 3) (AR.undef v0)).rr (some 4) (AR.undef (.bool ad.isNone))
    have hR3 : Rel Bs st _ w Z μ1 := hR3
    let K : mV (List e.den) := { nrm := fin P fn (rH e) (uL e) [.c (.ref 0 .full)], ext := fun _ _ => .stuck, ret := fin P fn (rH e) (uL e) [.c (.ref 0 .full)] }
    have hx0 : (exec { P := P, specs := [], ety := ety } (pE T) (List e.den) .none st K).sat (show List e.den → Prop from Ψ) := (congrArg (fun r : Res (List e.den) => r.sat (show List e.den → Prop from Ψ)) (hcopy x)).mpr hsat
    refine kj (B := Bs) (E := { P := P, specs := [], ety := ety }) hm (.qJ hE rfl) (pE T) (List e.den) .none st K Ψ _ st _ _ w w Z Z μ1 μ1 hx0 hR3 hR3 (Ev.refl _) (cb.refl _) ?_
    intro k s a' w' Z' μ' hs hR' _ hext'
    cases k with
    | nrm => exact su (sp := sM f e g) (Ψ := Ψ) (vs := [.c (.ref 0 .full)]) (args := [v0]) rfl rfl hres hZ hS e3 hob hext' hR' hs
    | ret => exact su (sp := sM f e g) (Ψ := Ψ) (vs := [.c (.ref 0 .full)]) (args := [v0]) rfl rfl hres hZ hS e3 hob hext' hR' hs
    | ext n => exact hs.elim
end Go.Mach
set_option maxRecDepth 100000
set_option linter.unusedVariables false
namespace Go.Mach
open Go.Proofs
theorem mixed : Tryz.prog.follows .mixedOrders = true := by kernel_rfl
class Has (sp : Spec) : Prop where
  ok : iV Tryz.prog tk sp
class xh (l : List Spec) : Prop where
  ok : ∀ sp ∈ l, iV Tryz.prog tk sp
instance : xh [] := ⟨fun _ h => by cases h⟩
instance {s : Spec} {l : List Spec} [a : Has s] [b : xh l] : xh (s :: l) := ⟨fun sp hm => by
  rcases List.mem_cons.1 hm with rfl | hm
  · exact a.ok
  · exact b.ok sp hm⟩
theorem Has.of {l : List Spec} {sp : Spec} {ann : Ann} (h : Eqn (Q l) sp ann) [b : xh l] : Has sp := ⟨h.uc mixed (.qJ b.ok rfl)⟩
theorem Has.env {E : Env} {sp : Spec} {ann : Ann} (h : Eqn E sp ann) (hP : E.P = Tryz.prog) (hi : E.sE = []) [b : xh E.specs] : Has sp := ⟨by
  obtain ⟨P, specs, ety, dr, sbs, maps, kok, sE⟩ := E
  cases hP
  exact h.uc mixed (.qJ b.ok hi)⟩
theorem Has.stuck {E : Env} {sp : Spec} {ann : Ann} (h : Eqn E sp ann) {run : lA (sp.ps.map Par.v) → Res (outs (lA sp.rs) (boxes sp.ps))} (hP : E.P = Tryz.prog) (h0 : ∀ x, run x = .stuck) : Has ⟨sp.f, sp.ps, sp.rs, run⟩ := ⟨hP ▸ h.stuck h0⟩
theorem Has.inl {E : Env} {j : Inl} {sp : Spec} {ann : Ann} (h : Eqn E sp ann) (hP : E.P = Tryz.prog) (hi : E.sE = [j]) (hj : AN Tryz.prog tk j) [b : xh E.specs] : Has sp := ⟨by
  obtain ⟨P, specs, ety, dr, sbs, maps, kok, sE⟩ := E
  cases hP
  exact h.uc mixed ⟨b.ok, fun i hm => by
    rw [hi] at hm
    obtain rfl := List.mem_singleton.1 hm
    exact hj⟩⟩
theorem pg {P : Program} {Gl : pR} {f : FuncId} {e : Ty} {g : List e.den → Bool} (h : iV P Gl (sM f e g)) (hg : ∀ xs : List e.den, gg (.frz e) xs.length = true → g xs = true) : iV P Gl (jd f e) := by
  refine ⟨h.fn, h.obj, fun w Z Y S args x Ψ hsat hG hZ hY hS hV => ?_⟩
  refine h.run w Z Y S args x Ψ ?_ hG hZ hY hS hV
  have hok : gg (.frz e) (List.length (show List e.den from x)) = true := hV.ok
  show (Res.ai (g x) (Res.ok x)).sat Ψ
  rw [hg x hok]
  exact hsat
theorem tV {P : Program} {el : TypeId} {e : Ty} {k : Nat} (hb : P.bytesOf el = k) (he : e.lY = k) (n : Nat) (h : gg (.frz e) n = true) : roomFor P el (0 + n) = true := by
  unfold roomFor
  rw [Nat.zero_add, hb, ← he]
  exact h
instance Be : Has (jd 123 (.int .u32)) := ⟨pg
  (mK (g := fun xs => roomFor Tryz.prog 149 (0 + xs.length)) (fn := Tryz.f123) (T := 26) (B := 4) (el := 149) (ety := pL Tryz.prog owned) (by kernel_rfl) (by kernel_rfl) (by kernel_rfl) (by kernel_rfl) (by kernel_rfl) (by kernel_rfl) (by kernel_rfl) (fun xs => by kernel_rfl))
  fun xs h => tV (k := 4) (by kernel_rfl) rfl xs.length h⟩
instance Bj : Has (jd 67 (.int .u16)) := ⟨pg
  (mK (g := fun xs => roomFor Tryz.prog 76 (0 + xs.length)) (fn := Tryz.f67) (T := 23) (B := 4) (el := 76) (ety := pL Tryz.prog owned) (by kernel_rfl) (by kernel_rfl) (by kernel_rfl) (by kernel_rfl) (by kernel_rfl) (by kernel_rfl) (by kernel_rfl) (fun xs => by kernel_rfl))
  fun xs h => tV (k := 2) (by kernel_rfl) rfl xs.length h⟩
instance BM : Has (jd 160 (.int .u8)) := ⟨pg
  (mK (g := fun xs => roomFor Tryz.prog 5 (0 + xs.length)) (fn := Tryz.f160) (T := 56) (B := 4) (el := 5) (ety := pL Tryz.prog owned) (by kernel_rfl) (by kernel_rfl) (by kernel_rfl) (by kernel_rfl) (by kernel_rfl) (by kernel_rfl) (by kernel_rfl) (fun xs => by kernel_rfl))
  fun xs h => tV (k := 1) (by kernel_rfl) rfl xs.length h⟩
instance Bg : Has (pc 112 158 bo) :=
  ⟨mK (g := fun xs => decide ((0 + xs.length) * 112 ≤ 2 ^ 47)) (fn := Tryz.f158) (T := 101) (B := 4) (el := 186) (ety := pL Tryz.prog owned) (by kernel_rfl) (by kernel_rfl) (by kernel_rfl) (by kernel_rfl) (by kernel_rfl) (by kernel_rfl) (by kernel_rfl) (fun xs => by kernel_rfl)⟩
instance BQ : Has (pc 112 159 bd) :=
  ⟨mK (g := fun xs => decide ((0 + xs.length) * 112 ≤ 2 ^ 47)) (fn := Tryz.f159) (T := 102) (B := 4) (el := 160) (ety := pL Tryz.prog owned) (by kernel_rfl) (by kernel_rfl) (by kernel_rfl) (by kernel_rfl) (by kernel_rfl) (by kernel_rfl) (by kernel_rfl) (fun xs => by kernel_rfl)⟩
instance BX : Has (jd 133 .str) := ⟨pg
  (mK (g := fun xs => roomFor Tryz.prog 9 (0 + xs.length)) (fn := Tryz.f133) (T := 81) (B := 4) (el := 9) (ety := pL Tryz.prog owned) (by kernel_rfl) (by kernel_rfl) (by kernel_rfl) (by kernel_rfl) (by kernel_rfl) (by kernel_rfl) (by kernel_rfl) (fun xs => by kernel_rfl))
  fun xs h => tV (k := 16) (by kernel_rfl) rfl xs.length h⟩
instance : Has (sX 406) := ⟨AQ⟩
instance : Has (pP 96) := ⟨Ak⟩
instance : Has (wR 181) := ⟨ixb_ok⟩
end Go.Mach
set_option maxRecDepth 100000
set_option linter.unusedVariables false
namespace Go.Mach
open Go.Proofs
instance fl.ok : Has fl.spec := .of fl.eq
instance kA.ok : Has kA.spec := .of kA.eq
instance lg.ok : Has lg.spec := .of lg.eq
instance jg.ok : Has jg.spec := .of jg.eq
instance dB.ok : Has dB.spec := .of dB.eq
instance kZ.ok : Has kZ.spec := .of kZ.eq
instance ki.ok : Has ki.spec := .of ki.eq
instance eg.ok : Has eg.spec := .of eg.eq
instance fj.ok : Has fj.spec := .of fj.eq
instance iT.ok : Has iT.spec := .of iT.eq
instance gx.ok : Has gx.spec := .of gx.eq
instance fU.ok : Has fU.spec := .of fU.eq
instance bx.ok : Has bx.spec := .of bx.eq
instance bW.ok : Has bW.spec := .of bW.eq
instance jn.ok : Has jn.spec := .of jn.eq
instance fm.ok : Has fm.spec := .of fm.eq
instance bP.ok : Has bP.spec := .of bP.eq
instance ch.ok : Has ch.spec := .of ch.eq
instance km.ok : Has km.spec := .of km.eq
instance jL.ok : Has jL.spec := .of jL.eq
instance iD.ok : Has iD.spec := .of iD.eq
instance eT.ok : Has eT.spec := .of eT.eq
instance jw.ok : Has jw.spec := .of jw.eq
instance cS.ok : Has cS.spec := .of cS.eq
instance ef.ok : Has ef.spec := .of ef.eq
instance eO.ok : Has eO.spec := .of eO.eq
instance bZ.ok : Has bZ.spec := .of bZ.eq
instance ev.ok : Has ev.spec := .of ev.eq
instance ae.ok : Has ae.spec := .of ae.eq
instance kP.ok : Has kP.spec := .of kP.eq
instance ig.ok : Has ig.spec := .of ig.eq
instance eM.ok : Has eM.spec := .of eM.eq
instance du.ok : Has du.spec := .of du.eq
instance jT.ok : Has jT.spec := .of jT.eq
instance dw.ok : Has dw.spec := .of dw.eq
instance iY.ok : Has iY.spec := .of iY.eq
instance iw.ok : Has iw.spec := .of iw.eq
instance bD.ok : Has bD.spec := .of bD.eq
instance bC.ok : Has bC.spec := .of bC.eq
instance kK.ok : Has kK.spec := .of kK.eq
instance mF.ok : Has mF.spec := .of mF.eq
instance fB.ok : Has fB.spec := .of fB.eq
instance ec.ok : Has ec.spec := .of ec.eq
instance jl.ok : Has jl.spec := .of jl.eq
instance dA.ok : Has dA.spec := .of dA.eq
instance fh.ok : Has fh.spec := .of fh.eq
instance lD.ok : Has lD.spec := .of lD.eq
instance iN.ok : Has iN.spec := .of iN.eq
instance ed.ok : Has ed.spec := .of ed.eq
instance mA.ok : Has mA.spec := .of mA.eq
instance fR.ok : Has fR.spec := .of fR.eq
instance b8.ok : Has b8.spec := .of b8.eq
instance ew.ok : Has ew.spec := .of ew.eq
instance eo.ok : Has eo.spec := .of eo.eq
instance ee.ok : Has ee.spec := .of ee.eq
instance fi.ok : Has fi.spec := .of fi.eq
instance lW.ok : Has lW.spec := .of lW.eq
instance fk.ok : Has fk.spec := .of fk.eq
instance fN.ok : Has fN.spec := .of fN.eq
instance kT.ok : Has kT.spec := .of kT.eq
instance aU.ok : Has aU.spec := .of aU.eq
instance aM.ok : Has aM.spec := .of aM.eq
instance fV.ok : Has fV.spec := .of fV.eq
instance aw.ok : Has aw.spec := .of aw.eq
instance aG.ok : Has aG.spec := .of aG.eq
instance cX.ok : Has cX.spec := .of cX.eq
instance aO.ok : Has aO.spec := .of aO.eq
instance bV.ok : Has bV.spec := .of bV.eq
instance bF.ok : Has bF.spec := .of bF.eq
instance aN.ok : Has aN.spec := .of aN.eq
instance ax.ok : Has ax.spec := .of ax.eq
instance bw.ok : Has bw.spec := .of bw.eq
instance dH.ok : Has dH.spec := .of dH.eq
instance bI.ok : Has bI.spec := .of bI.eq
instance fA.ok : Has fA.spec := .of fA.eq
instance ga.ok : Has ga.spec := .of ga.eq
instance cT.ok : Has cT.spec := .of cT.eq
instance aV.ok : Has aV.spec := .of aV.eq
instance mC.ok : Has mC.spec := .of mC.eq
instance gr.ok : Has gr.spec := .of gr.eq
instance eH.ok : Has eH.spec := .of eH.eq
instance eu.ok : Has eu.spec := .of eu.eq
instance jc.ok : Has jc.spec := .of jc.eq
instance kq.ok : Has kq.spec := .of kq.eq
class fM (G : bG) : Prop where
  bj : Has (bj.spec G)
  aY : Has (aY.spec G)
  bA : Has (bA.spec G)
  aW : Has (aW.spec G)
  aK : Has (aK.spec G)
  aj : Has (aj.spec G)
  cM : Has (cM.spec G)
  bR : Has (bR.spec G)
  b9 : Has (b9.spec G)
  cJ : Has (cJ.spec G)
  bU : Has (bU.spec G)
  cI : Has (cI.spec G)
  cV : Has (cV.spec G)
  bg : Has (bg.spec G)
  bK : Has (bK.spec G)
  aq : Has (aq.spec G)
  bz : Has (bz.spec G)
  bO : Has (bO.spec G)
  cB : Has (cB.spec G)
  bh : Has (bh.spec G)
  av : Has (av.spec G)
  bS : Has (bS.spec G)
  bY : Has (bY.spec G)
  bk : Has (bk.spec G)
  bf : Has (bf.spec G)
  cO : Has (cO.spec G)
instance {G} [h : fM G] : Has (bj.spec G) := h.bj
instance {G} [h : fM G] : Has (aY.spec G) := h.aY
instance {G} [h : fM G] : Has (bA.spec G) := h.bA
instance {G} [h : fM G] : Has (aW.spec G) := h.aW
instance {G} [h : fM G] : Has (aK.spec G) := h.aK
instance {G} [h : fM G] : Has (aj.spec G) := h.aj
instance {G} [h : fM G] : Has (cM.spec G) := h.cM
instance {G} [h : fM G] : Has (bR.spec G) := h.bR
instance {G} [h : fM G] : Has (b9.spec G) := h.b9
instance {G} [h : fM G] : Has (cJ.spec G) := h.cJ
instance {G} [h : fM G] : Has (bU.spec G) := h.bU
instance {G} [h : fM G] : Has (cI.spec G) := h.cI
instance {G} [h : fM G] : Has (cV.spec G) := h.cV
instance {G} [h : fM G] : Has (bg.spec G) := h.bg
instance {G} [h : fM G] : Has (bK.spec G) := h.bK
instance {G} [h : fM G] : Has (aq.spec G) := h.aq
instance {G} [h : fM G] : Has (bz.spec G) := h.bz
instance {G} [h : fM G] : Has (bO.spec G) := h.bO
instance {G} [h : fM G] : Has (cB.spec G) := h.cB
instance {G} [h : fM G] : Has (bh.spec G) := h.bh
instance {G} [h : fM G] : Has (av.spec G) := h.av
instance {G} [h : fM G] : Has (bS.spec G) := h.bS
instance {G} [h : fM G] : Has (bY.spec G) := h.bY
instance {G} [h : fM G] : Has (bk.spec G) := h.bk
instance {G} [h : fM G] : Has (bf.spec G) := h.bf
instance {G} [h : fM G] : Has (cO.spec G) := h.cO
instance zq : ∀ n, fM (ca n)
  | 0 => { bj := .stuck (bj.eq (ca 0)) rfl fun _ => rfl, aY := .stuck (aY.eq (ca 0)) rfl fun _ => rfl, bA := .stuck (bA.eq (ca 0)) rfl fun _ => rfl, aW := .stuck (aW.eq (ca 0)) rfl fun _ => rfl, aK := .stuck (aK.eq (ca 0)) rfl fun _ => rfl, aj := .stuck (aj.eq (ca 0)) rfl fun _ => rfl, cM := .stuck (cM.eq (ca 0)) rfl fun _ => rfl, bR := .stuck (bR.eq (ca 0)) rfl fun _ => rfl, b9 := .stuck (b9.eq (ca 0)) rfl fun _ => rfl, cJ := .stuck (cJ.eq (ca 0)) rfl fun _ => rfl, bU := .stuck (bU.eq (ca 0)) rfl fun _ => rfl, cI := .stuck (cI.eq (ca 0)) rfl fun _ => rfl, cV := .stuck (cV.eq (ca 0)) rfl fun _ => rfl, bg := .stuck (bg.eq (ca 0)) rfl fun _ => rfl, bK := .stuck (bK.eq (ca 0)) rfl fun _ => rfl, aq := .stuck (aq.eq (ca 0)) rfl fun _ => rfl, bz := .stuck (bz.eq (ca 0)) rfl fun _ => rfl, bO := .stuck (bO.eq (ca 0)) rfl fun _ => rfl, cB := .stuck (cB.eq (ca 0)) rfl fun _ => rfl, bh := .stuck (bh.eq (ca 0)) rfl fun _ => rfl, av := .stuck (av.eq (ca 0)) rfl fun _ => rfl, bS := .stuck (bS.eq (ca 0)) rfl fun _ => rfl, bY := .stuck (bY.eq (ca 0)) rfl fun _ => rfl, bk := .stuck (bk.eq (ca 0)) rfl fun _ => rfl, bf := .stuck (bf.eq (ca 0)) rfl fun _ => rfl, cO := .stuck (cO.eq (ca 0)) rfl fun _ => rfl }
  | n + 1 => by
    have := zq n
    exact { bj := .of (bj.eq (ca n)), aY := .of (aY.eq (ca n)), bA := .of (bA.eq (ca n)), aW := .of (aW.eq (ca n)), aK := .of (aK.eq (ca n)), aj := .of (aj.eq (ca n)), cM := .of (cM.eq (ca n)), bR := .of (bR.eq (ca n)), b9 := .of (b9.eq (ca n)), cJ := .of (cJ.eq (ca n)), bU := .of (bU.eq (ca n)), cI := .of (cI.eq (ca n)), cV := .of (cV.eq (ca n)), bg := .of (bg.eq (ca n)), bK := .of (bK.eq (ca n)), aq := .of (aq.eq (ca n)), bz := .of (bz.eq (ca n)), bO := .of (bO.eq (ca n)), cB := .of (cB.eq (ca n)), bh := .of (bh.eq (ca n)), av := .of (av.eq (ca n)), bS := .of (bS.eq (ca n)), bY := .of (bY.eq (ca n)), bk := .of (bk.eq (ca n)), bf := .of (bf.eq (ca n)), cO := .of (cO.eq (ca n)) }
instance eA.ok : Has eA.spec := .of eA.eq
instance jC.ok : ∀ n, Has (jC.spec n)
  | 0 => .stuck (jC.eq 0) rfl fun _ => rfl
  | n + 1 => have := jC.ok n; .of (jC.eq n)
instance j8.ok : Has j8.spec := .of j8.eq
instance gv.ok : Has gv.spec := .of gv.eq
instance da.ok : Has da.spec := .of da.eq
instance jb.ok : Has jb.spec := .of jb.eq
instance ia.ok : Has ia.spec := .of ia.eq
instance lX.ok : Has lX.spec := .of lX.eq
instance lr.ok : Has lr.spec := .of lr.eq
instance ku.ok : Has ku.spec := .of ku.eq
instance iB.ok : Has iB.spec := .inl iB.eq rfl rfl (tG (E := pB.env Tryz.prog) mixed (.qJ (xh.ok (l := [])) rfl) (by kernel_rfl) (by kernel_rfl) (by kernel_rfl) (by kernel_rfl))
instance gI.ok : Has gI.spec := .of gI.eq
instance ib.ok : Has ib.spec := .of ib.eq
instance jq.ok : Has jq.spec := .of jq.eq
instance kk.ok : Has kk.spec := .of kk.eq
instance gE.ok : Has gE.spec := .of gE.eq
instance mb.ok : Has mb.spec := .of mb.eq
instance ez.ok : Has ez.spec := .of ez.eq
instance lf.ok : Has lf.spec := .of lf.eq
instance jS.ok : Has jS.spec := .of jS.eq
instance i6.ok : Has i6.spec := .of i6.eq
instance lv.ok : Has lv.spec := .of lv.eq
instance kn.ok : Has kn.spec := .of kn.eq
instance fe.ok : Has fe.spec := .of fe.eq
instance gd.ok : Has gd.spec := .of gd.eq
instance il.ok : Has il.spec := .of il.eq
instance fC.ok : Has fC.spec := .of fC.eq
instance eb.ok : Has eb.spec := .of eb.eq
instance jk.ok : Has jk.spec := .of jk.eq
instance iv.ok : Has iv.spec := .of iv.eq
instance bE.ok : Has bE.spec := .of bE.eq
instance bB.ok : Has bB.spec := .of bB.eq
instance je.ok : Has je.spec := .of je.eq
instance gH.ok : Has gH.spec := .of gH.eq
instance iu.ok : Has iu.spec := .of iu.eq
instance bQ.ok : Has bQ.spec := .of bQ.eq
instance bM.ok : Has bM.spec := .of bM.eq
instance kE.ok : Has kE.spec := .of kE.eq
instance gj.ok : Has gj.spec := .of gj.eq
instance jz.ok : Has jz.spec := .of jz.eq
instance ic.ok : Has ic.spec := .of ic.eq
instance gJ.ok : Has gJ.spec := .of gJ.eq
instance i7.ok : Has i7.spec := .of i7.eq
instance lj.ok : Has lj.spec := .of lj.eq
instance mG.ok : Has mG.spec := .of mG.eq
instance eQ.ok : Has eQ.spec := .of eQ.eq
instance iL.ok : Has iL.spec := .of iL.eq
instance gY.ok : Has gY.spec := .of gY.eq
instance cy.ok : Has cy.spec := .of cy.eq
instance aX.ok : Has aX.spec := .of aX.eq
instance cE.ok : Has cE.spec := .of cE.eq
instance bc.ok : Has bc.spec := .of bc.eq
instance fy.ok : Has fy.spec := .of fy.eq
instance au.ok : Has au.spec := .of au.eq
instance eK.ok : Has eK.spec := .of eK.eq
instance ba.ok : Has ba.spec := .of ba.eq
instance fS.ok : Has fS.spec := .of fS.eq
instance al.ok : Has al.spec := .of al.eq
instance eV.ok : Has eV.spec := .of eV.eq
instance cj.ok : Has cj.spec := .of cj.eq
instance eI.ok : Has eI.spec := .of eI.eq
instance dx.ok : Has dx.spec := .of dx.eq
instance cz.ok : Has cz.spec := .of cz.eq
instance cc.ok : Has cc.spec := .of cc.eq
instance gP.ok : Has gP.spec := .of gP.eq
instance gm.ok : Has gm.spec := .of gm.eq
instance jx.ok : Has jx.spec := .of jx.eq
instance gX.ok : Has gX.spec := .of gX.eq
instance gM.ok : Has gM.spec := .of gM.eq
instance cu.ok : Has cu.spec := .of cu.eq
instance eU.ok : Has eU.spec := .of eU.eq
instance cY.ok : Has cY.spec := .of cY.eq
instance fD.ok : Has fD.spec := .of fD.eq
instance eG.ok : Has eG.spec := .of eG.eq
instance aC.ok : Has aC.spec := .of aC.eq
instance iS.ok : Has iS.spec := .of iS.eq
instance gQ.ok : Has gQ.spec := .of gQ.eq
instance fb.ok : Has fb.spec := .of fb.eq
instance dq.ok : Has dq.spec := .of dq.eq
instance db.ok : Has db.spec := .of db.eq
instance jJ.ok : Has jJ.spec := .of jJ.eq
instance ke.ok : Has ke.spec := .of ke.eq
instance aL.ok : Has aL.spec := .of aL.eq
instance fF.ok : Has fF.spec := .of fF.eq
instance fZ.ok : Has fZ.spec := .of fZ.eq
instance bT.ok : Has bT.spec := .of bT.eq
instance jf.ok : Has jf.spec := .of jf.eq
instance mX.ok : Has mX.spec := .of mX.eq
instance cQ.ok : Has cQ.spec := .of cQ.eq
instance fG.ok : Has fG.spec := .of fG.eq
instance jY.ok : Has jY.spec := .of jY.eq
instance jO.ok : Has jO.spec := .of jO.eq
instance gl.ok : Has gl.spec := .of gl.eq
instance gN.ok : Has gN.spec := .of gN.eq
instance bu.ok : Has bu.spec := .of bu.eq
instance kt.ok : Has kt.spec := .of kt.eq
instance dC.ok : Has dC.spec := .of dC.eq
instance di.ok : Has di.spec := .of di.eq
instance gS.ok : Has gS.spec := .of gS.eq
instance lF.ok : Has lF.spec := .of lF.eq
instance iQ.ok : Has iQ.spec := .of iQ.eq
instance kJ.ok : Has kJ.spec := .of kJ.eq
instance mB.ok : Has mB.spec := .of mB.eq
instance kM.ok : Has kM.spec := .of kM.eq
instance cU.ok : Has cU.spec := .of cU.eq
instance bJ.ok : Has bJ.spec := .of bJ.eq
instance gu.ok : Has gu.spec := .of gu.eq
instance jM.ok : Has jM.spec := .of jM.eq
instance iK.ok : Has iK.spec := .of iK.eq
instance jv.ok : Has jv.spec := .of jv.eq
instance cg.ok : Has cg.spec := .of cg.eq
instance ko.ok : Has ko.spec := .of ko.eq
instance dv.ok : Has dv.spec := .of dv.eq
instance cF.ok : Has cF.spec := .of cF.eq
instance fg.ok : Has fg.spec := .of fg.eq
instance iI.ok : Has iI.spec := .of iI.eq
instance ak.ok : Has ak.spec := .of ak.eq
instance dW.ok : Has dW.spec := .of dW.eq
instance fE.ok : Has fE.spec := .of fE.eq
instance iW.ok : Has iW.spec := .of iW.eq
instance bl.ok : Has bl.spec := .of bl.eq
instance iJ.ok : Has iJ.spec := .of iJ.eq
instance eX.ok : Has eX.spec := .inl eX.eq rfl rfl (tG (E := pS.env Tryz.prog) mixed (.qJ (xh.ok (l := [bc.spec])) rfl) (by kernel_rfl) (by kernel_rfl) (by kernel_rfl) (by kernel_rfl))
instance bn.ok : Has bn.spec := .of bn.eq
instance ea.ok : Has ea.spec := .of ea.eq
instance eF.ok : Has eF.spec := .of eF.eq
instance cR.ok : Has cR.spec := .of cR.eq
instance dz.ok : Has dz.spec := .of dz.eq
instance iz.ok : Has iz.spec := .of iz.eq
instance j9.ok : Has j9.spec := .of j9.eq
instance gK.ok : Has gK.spec := .of gK.eq
instance kC.ok : Has kC.spec := .of kC.eq
instance eE.ok : Has eE.spec := .of eE.eq
instance fP.ok : Has fP.spec := .of fP.eq
instance gL.ok : Has gL.spec := .of gL.eq
instance gD.ok : Has gD.spec := .of gD.eq
instance fI.ok : Has fI.spec := .of fI.eq
instance fa.ok : Has fa.spec := .of fa.eq
instance kU.ok : Has kU.spec := .of kU.eq
instance mJ.ok : Has mJ.spec := .of mJ.eq
instance jZ.ok : Has jZ.spec := .of jZ.eq
instance lT.ok : Has lT.spec := .of lT.eq
instance kX.ok : Has kX.spec := .of kX.eq
instance kR.ok : Has kR.spec := .of kR.eq
instance jR.ok : Has jR.spec := .of jR.eq
instance ky.ok : Has ky.spec := .of ky.eq
instance fX.ok : Has fX.spec := .of fX.eq
instance ep.ok : Has ep.spec := .of ep.eq
instance nR.ok : Has nR.spec := .of nR.eq
instance lC.ok : Has lC.spec := .of lC.eq
instance dc.ok : Has dc.spec := .of dc.eq
instance lQ.ok : Has lQ.spec := .of lQ.eq
instance gZ.ok : Has gZ.spec := .of gZ.eq
instance j7.ok : Has j7.spec := .of j7.eq
instance lI.ok : Has lI.spec := .of lI.eq
instance jX.ok : Has jX.spec := .of jX.eq
instance jy.ok : Has jy.spec := .of jy.eq
instance jV.ok : Has jV.spec := .of jV.eq
instance jj.ok : Has jj.spec := .of jj.eq
instance gG.ok : Has gG.spec := .of gG.eq
instance nA.ok : Has nA.spec := .of nA.eq
instance lS.ok : Has lS.spec := .of lS.eq
instance j6.ok : Has j6.spec := .of j6.eq
instance mM.ok : Has mM.spec := .of mM.eq
instance gU.ok : Has gU.spec := .of gU.eq
instance gR.ok : Has gR.spec := .of gR.eq
instance jH.ok : Has jH.spec := .of jH.eq
instance jK.ok : Has jK.spec := .of jK.eq
instance gA.ok : Has gA.spec := .of gA.eq
instance dZ.ok : Has dZ.spec := .of dZ.eq
instance jD.ok : Has jD.spec := .of jD.eq
instance jB.ok : Has jB.spec := .of jB.eq
instance gT.ok : Has gT.spec := .of gT.eq
instance ja.ok : Has ja.spec := .of ja.eq
instance lR.ok : Has lR.spec := .of lR.eq
instance ff.ok : Has ff.spec := .of ff.eq
instance nC.ok : Has nC.spec := .of nC.eq
instance nD.ok : Has nD.spec := .of nD.eq
instance kN.ok : Has kN.spec := .of kN.eq
instance jI.ok : Has jI.spec := .of jI.eq
instance nE.ok : Has nE.spec := .of nE.eq
instance nM.ok : Has nM.spec := .of nM.eq
instance lK.ok : Has lK.spec := .of lK.eq
instance nH.ok : Has nH.spec := .of nH.eq
instance jt.ok : Has jt.spec := .of jt.eq
instance dd.ok : Has dd.spec := .of dd.eq
instance gF.ok : Has gF.spec := .of gF.eq
instance kI.ok : Has kI.spec := .of kI.eq
instance gz.ok : Has gz.spec := .of gz.eq
instance nG.ok : Has nG.spec := .of nG.eq
instance nI.ok : Has nI.spec := .of nI.eq
instance nJ.ok : Has nJ.spec := .of nJ.eq
instance kD.ok : Has kD.spec := .of kD.eq
instance lM.ok : Has lM.spec := .of lM.eq
instance fK.ok : Has fK.spec := .of fK.eq
instance eS.ok : Has eS.spec := .of eS.eq
instance de.ok : Has de.spec := .of de.eq
instance ld.ok : Has ld.spec := .of ld.eq
instance lB.ok : Has lB.spec := .of lB.eq
instance im.ok : Has im.spec := .of im.eq
instance lV.ok : Has lV.spec := .of lV.eq
instance kQ.ok : Has kQ.spec := .of kQ.eq
instance jE.ok : Has jE.spec := .of jE.eq
instance eW.ok : Has eW.spec := .of eW.eq
instance lb.ok : Has lb.spec := .of lb.eq
instance iM.ok : Has iM.spec := .of iM.eq
instance kV.ok : Has kV.spec := .of kV.eq
instance iA.ok : Has iA.spec := .of iA.eq
instance mL.ok : Has mL.spec := .of mL.eq
instance kl.ok : Has kl.spec := .of kl.eq
instance kW.ok : Has kW.spec := .of kW.eq
instance iP.ok : Has iP.spec := .of iP.eq
instance cA.ok : Has cA.spec := .of cA.eq
instance fw.ok : Has fw.spec := .of fw.eq
instance lN.ok : Has lN.spec := .of lN.eq
instance dU.ok : Has dU.spec := .of dU.eq
instance fJ.ok : Has fJ.spec := .of fJ.eq
instance fQ.ok : Has fQ.spec := .of fQ.eq
instance fL.ok : Has fL.spec := .of fL.eq
instance eC.ok : Has eC.spec := .of eC.eq
instance dh.ok : Has dh.spec := .of dh.eq
instance eh.ok : Has eh.spec := .of eh.eq
instance gV.ok : Has gV.spec := .of gV.eq
instance kL.ok : Has kL.spec := .of kL.eq
instance iH.ok : Has iH.spec := .of iH.eq
instance fp.ok : Has fp.spec := .of fp.eq
instance dG.ok : Has dG.spec := .of dG.eq
instance aS.ok : Has aS.spec := .of aS.eq
instance aR.ok : Has aR.spec := .of aR.eq
instance af.ok : Has af.spec := .of af.eq
instance aJ.ok : ∀ n, Has (aJ.spec n)
  | 0 => .stuck (aJ.eq 0) rfl fun _ => rfl
  | n + 1 => have := aJ.ok n; .of (aJ.eq n)
instance aa.ok : Has aa.spec := .of aa.eq
instance aZ.ok : Has aZ.spec := .of aZ.eq
instance gW.ok : Has gW.spec := .of gW.eq
instance iF.ok : Has iF.spec := .of iF.eq
instance fx.ok : Has fx.spec := .of fx.eq
instance iG.ok : Has iG.spec := .of iG.eq
instance gf.ok : Has gf.spec := .of gf.eq
instance lJ.ok : Has lJ.spec := .of lJ.eq
instance er.ok : Has er.spec := .of er.eq
instance fq.ok : Has fq.spec := .of fq.eq
instance fO.ok : Has fO.spec := .of fO.eq
instance dX.ok : Has dX.spec := .of dX.eq
instance dy.ok : Has dy.spec := .of dy.eq
instance dY.ok : Has dY.spec := .of dY.eq
instance dL.ok : Has dL.spec := .of dL.eq
instance lO.ok : Has lO.spec := .of lO.eq
instance ij.ok : Has ij.spec := .of ij.eq
instance fo.ok : Has fo.spec := .of fo.eq
instance gh.ok : Has gh.spec := .of gh.eq
instance fH.ok : Has fH.spec := .of fH.eq
instance gi.ok : Has gi.spec := .of gi.eq
instance et.ok : Has et.spec := .of et.eq
instance hB.ok : Has hB.spec := .of hB.eq
instance jh.ok : Has jh.spec := .of jh.eq
instance ey.ok : Has ey.spec := .of ey.eq
instance jA.ok : Has jA.spec := .of jA.eq
instance gB.ok : Has gB.spec := .of gB.eq
class eZ (G : ay) : Prop where
  cP : Has (cP.spec G)
  aQ : Has (aQ.spec G)
  dt : Has (dt.spec G)
  aE : Has (aE.spec G)
  dM : Has (dM.spec G)
  dP : Has (dP.spec G)
  cw : Has (cw.spec G)
  dO : Has (dO.spec G)
  dm : Has (dm.spec G)
  eL : Has (eL.spec G)
  dS : Has (dS.spec G)
  cK : Has (cK.spec G)
  dQ : Has (dQ.spec G)
  dK : Has (dK.spec G)
  dV : Has (dV.spec G)
  cq : Has (cq.spec G)
  cC : Has (cC.spec G)
  dN : Has (dN.spec G)
  dn : Has (dn.spec G)
  cn : Has (cn.spec G)
  dJ : Has (dJ.spec G)
  cm : Has (cm.spec G)
  ct : Has (ct.spec G)
  bX : Has (bX.spec G)
  dI : Has (dI.spec G)
  cN : Has (cN.spec G)
  bt : Has (bt.spec G)
  cr : Has (cr.spec G)
  dF : Has (dF.spec G)
  cp : Has (cp.spec G)
  cd : Has (cd.spec G)
  dE : Has (dE.spec G)
  dp : Has (dp.spec G)
  cL : Has (cL.spec G)
instance {G} [h : eZ G] : Has (cP.spec G) := h.cP
instance {G} [h : eZ G] : Has (aQ.spec G) := h.aQ
instance {G} [h : eZ G] : Has (dt.spec G) := h.dt
instance {G} [h : eZ G] : Has (aE.spec G) := h.aE
instance {G} [h : eZ G] : Has (dM.spec G) := h.dM
instance {G} [h : eZ G] : Has (dP.spec G) := h.dP
instance {G} [h : eZ G] : Has (cw.spec G) := h.cw
instance {G} [h : eZ G] : Has (dO.spec G) := h.dO
instance {G} [h : eZ G] : Has (dm.spec G) := h.dm
instance {G} [h : eZ G] : Has (eL.spec G) := h.eL
instance {G} [h : eZ G] : Has (dS.spec G) := h.dS
instance {G} [h : eZ G] : Has (cK.spec G) := h.cK
instance {G} [h : eZ G] : Has (dQ.spec G) := h.dQ
instance {G} [h : eZ G] : Has (dK.spec G) := h.dK
instance {G} [h : eZ G] : Has (dV.spec G) := h.dV
instance {G} [h : eZ G] : Has (cq.spec G) := h.cq
instance {G} [h : eZ G] : Has (cC.spec G) := h.cC
instance {G} [h : eZ G] : Has (dN.spec G) := h.dN
instance {G} [h : eZ G] : Has (dn.spec G) := h.dn
instance {G} [h : eZ G] : Has (cn.spec G) := h.cn
instance {G} [h : eZ G] : Has (dJ.spec G) := h.dJ
instance {G} [h : eZ G] : Has (cm.spec G) := h.cm
instance {G} [h : eZ G] : Has (ct.spec G) := h.ct
instance {G} [h : eZ G] : Has (bX.spec G) := h.bX
instance {G} [h : eZ G] : Has (dI.spec G) := h.dI
instance {G} [h : eZ G] : Has (cN.spec G) := h.cN
instance {G} [h : eZ G] : Has (bt.spec G) := h.bt
instance {G} [h : eZ G] : Has (cr.spec G) := h.cr
instance {G} [h : eZ G] : Has (dF.spec G) := h.dF
instance {G} [h : eZ G] : Has (cp.spec G) := h.cp
instance {G} [h : eZ G] : Has (cd.spec G) := h.cd
instance {G} [h : eZ G] : Has (dE.spec G) := h.dE
instance {G} [h : eZ G] : Has (dp.spec G) := h.dp
instance {G} [h : eZ G] : Has (cL.spec G) := h.cL
instance AM : ∀ n, eZ (cf n)
  | 0 => { cP := .stuck (cP.eq (cf 0)) rfl fun _ => rfl, aQ := .stuck (aQ.eq (cf 0)) rfl fun _ => rfl, dt := .stuck (dt.eq (cf 0)) rfl fun _ => rfl, aE := .stuck (aE.eq (cf 0)) rfl fun _ => rfl, dM := .stuck (dM.eq (cf 0)) rfl fun _ => rfl, dP := .stuck (dP.eq (cf 0)) rfl fun _ => rfl, cw := .stuck (cw.eq (cf 0)) rfl fun _ => rfl, dO := .stuck (dO.eq (cf 0)) rfl fun _ => rfl, dm := .stuck (dm.eq (cf 0)) rfl fun _ => rfl, eL := .stuck (eL.eq (cf 0)) rfl fun _ => rfl, dS := .stuck (dS.eq (cf 0)) rfl fun _ => rfl, cK := .stuck (cK.eq (cf 0)) rfl fun _ => rfl, dQ := .stuck (dQ.eq (cf 0)) rfl fun _ => rfl, dK := .stuck (dK.eq (cf 0)) rfl fun _ => rfl, dV := .stuck (dV.eq (cf 0)) rfl fun _ => rfl, cq := .stuck (cq.eq (cf 0)) rfl fun _ => rfl, cC := .stuck (cC.eq (cf 0)) rfl fun _ => rfl, dN := .stuck (dN.eq (cf 0)) rfl fun _ => rfl, dn := .stuck (dn.eq (cf 0)) rfl fun _ => rfl, cn := .stuck (cn.eq (cf 0)) rfl fun _ => rfl, dJ := .stuck (dJ.eq (cf 0)) rfl fun _ => rfl, cm := .stuck (cm.eq (cf 0)) rfl fun _ => rfl, ct := .stuck (ct.eq (cf 0)) rfl fun _ => rfl, bX := .stuck (bX.eq (cf 0)) rfl fun _ => rfl, dI := .stuck (dI.eq (cf 0)) rfl fun _ => rfl, cN := .stuck (cN.eq (cf 0)) rfl fun _ => rfl, bt := .stuck (bt.eq (cf 0)) rfl fun _ => rfl, cr := .stuck (cr.eq (cf 0)) rfl fun _ => rfl, dF := .stuck (dF.eq (cf 0)) rfl fun _ => rfl, cp := .stuck (cp.eq (cf 0)) rfl fun _ => rfl, cd := .stuck (cd.eq (cf 0)) rfl fun _ => rfl, dE := .stuck (dE.eq (cf 0)) rfl fun _ => rfl, dp := .stuck (dp.eq (cf 0)) rfl fun _ => rfl, cL := .stuck (cL.eq (cf 0)) rfl fun _ => rfl }
  | n + 1 => by
    have := AM n
    exact { cP := .of (cP.eq (cf n)), aQ := .of (aQ.eq (cf n)), dt := .of (dt.eq (cf n)), aE := .of (aE.eq (cf n)), dM := .of (dM.eq (cf n)), dP := .of (dP.eq (cf n)), cw := .of (cw.eq (cf n)), dO := .of (dO.eq (cf n)), dm := .of (dm.eq (cf n)), eL := .of (eL.eq (cf n)), dS := .of (dS.eq (cf n)), cK := .of (cK.eq (cf n)), dQ := .of (dQ.eq (cf n)), dK := .of (dK.eq (cf n)), dV := .of (dV.eq (cf n)), cq := .of (cq.eq (cf n)), cC := .of (cC.eq (cf n)), dN := .of (dN.eq (cf n)), dn := .of (dn.eq (cf n)), cn := .of (cn.eq (cf n)), dJ := .of (dJ.eq (cf n)), cm := .of (cm.eq (cf n)), ct := .of (ct.eq (cf n)), bX := .of (bX.eq (cf n)), dI := .of (dI.eq (cf n)), cN := .of (cN.eq (cf n)), bt := .of (bt.eq (cf n)), cr := .of (cr.eq (cf n)), dF := .of (dF.eq (cf n)), cp := .of (cp.eq (cf n)), cd := .of (cd.eq (cf n)), dE := .of (dE.eq (cf n)), dp := .of (dp.eq (cf n)), cL := .of (cL.eq (cf n)) }
instance eR.ok : Has eR.spec := .of eR.eq
instance gC.ok : Has gC.spec := .of gC.eq
instance gp.ok : Has gp.spec := .of gp.eq
instance gy.ok : Has gy.spec := .of gy.eq
instance eP.ok : Has eP.spec := .of eP.eq
instance jF.ok : Has jF.spec := .of jF.eq
instance jU.ok : Has jU.spec := .of jU.eq
instance fc.ok : Has fc.spec := .of fc.eq
instance eJ.ok : Has eJ.spec := .of eJ.eq
instance ei.ok : Has ei.spec := .env ei.eq rfl rfl
end Go.Mach
namespace Go.Mach
def nT (ck : TypeId → Ty → Bool) (cells : TypeId → Nat) : List (Nat × TypeId) → Nat → Ty → Bool
  | [], _, .unit => true
  | [p], o, τ => p.1 == o && (cells p.2 == τ.cells && ck p.2 τ)
  | p :: q :: r, o, .pair a b => p.1 == o && (cells p.2 == a.cells && (ck p.2 a && nT ck cells (q :: r) (o + a.cells) b))
  | _, _, _ => false
def ph (P : Program) : Nat → TypeId → Ty → Bool
  | 0, _, _ => false
  | n + 1, t, τ => match P.underlying t, τ with
    | some (.int k), .int j => match IntKind.same j k with
      | some _ => true
      | none => false
    | some .bool, .bool => true
    | some .string, .str => true
    | some (.slice e), .list τ => ph P n e τ && (P.cellsOf e == τ.cells && (!(τ.cells == 0) && decide (τ.lY ≤ 2 ^ 20)))
    | some (.struct fs), τ => P.cellsOf t == τ.cells && nT (ph P n) P.cellsOf (fs.toList.map fun f => (f.offset, f.type)) 0 τ
    | some (.array k e), τ => P.cellsOf t == τ.cells && nT (ph P n) P.cellsOf ((List.range k).map fun i => (i * P.cellsOf e, e)) 0 τ
    | _, _ => false
def Ty.small (n : Nat) : (t : Ty) → t.den → Prop
  | .unit, _ | .int _, _ | .bool, _ => True
  | .str, s => s.length ≤ n
  | .list e, xs => xs.length ≤ n ∧ ∀ x ∈ xs, e.small n x
  | .pair a b, x => a.small n x.1 ∧ b.small n x.2
  | .rose _, _ => False
structure Sm {H : Type} (n : Nat) (sm : DataW H → Prop) : Prop where
  str : ∀ b, sm (.lit (.string b)) → b.length ≤ n
  sl : ∀ es sp, sm (.slice es sp) → es.length ≤ n ∧ ∀ d ∈ es, sm d
  agg : ∀ l, sm (.agg l) → ∀ d ∈ l, sm d
theorem vF {k : IntKind} {n : Int} (h : (Lit.int k n).wf = true) : dk k n = true := by
  unfold dk
  have h : k.min ≤ n ∧ n ≤ k.max := by simpa [Lit.wf] using h
  cases k <;> simp [IntKind.wrap, IntKind.min, IntKind.max, IntKind.signed, IntKind.bits] at h ⊢ <;> omega
theorem xT {α β : Type} {f : α → Option β} : ∀ {l : List α} {ys : List β}, l.mapM f = some ys → ys.length = l.length ∧ ∀ i (h : i < l.length) (h' : i < ys.length), f l[i] = some ys[i]
  | [], ys, h => by simp at h; subst h; exact ⟨rfl, fun i h => by simp at h⟩
  | a :: l, ys, h => by
    rw [List.mapM_cons] at h
    cases ha : f a with
    | none => rw [ha] at h; cases h
    | some y =>
      cases hl : l.mapM f with
      | none => rw [ha, hl] at h; cases h
      | some ys' =>
        rw [ha, hl] at h
        cases h
        obtain ⟨h1, h2⟩ := xT hl
        refine ⟨by simp [h1], fun i hi hi' => ?_⟩
        cases i with
        | zero => simpa using ha
        | succ i => simpa using h2 i (by simpa using hi) (by simpa using hi')
theorem pr {α β : Type} {f f' : α → Option β} : ∀ {l : List α} {ys : List β}, l.mapM f = some ys → (∀ a ∈ l, ∀ y ∈ ys, f a = some y → f' a = some y) → l.mapM f' = some ys
  | [], ys, h, _ => by simpa using h
  | a :: l, ys, h, hs => by
    rw [List.mapM_cons] at h ⊢
    cases ha : f a with
    | none => rw [ha] at h; cases h
    | some y =>
      cases hl : l.mapM f with
      | none => rw [ha, hl] at h; cases h
      | some ys' =>
        rw [ha, hl] at h
        cases h
        rw [hs a (List.mem_cons_self) y (List.mem_cons_self) ha, pr hl fun b hb z hz => hs b (List.mem_cons_of_mem _ hb) z (List.mem_cons_of_mem _ hz)]
        rfl
theorem yh {α : Type} (p : Nat → α → Prop) : ∀ (n : Nat), (∀ i, i < n → ∃ x, p i x) → ∃ xs : List α, xs.length = n ∧ ∀ i (h : i < xs.length), p i xs[i]
  | 0, _ => ⟨[], rfl, fun i h => by simp at h⟩
  | n + 1, h => by
    obtain ⟨xs, h1, h2⟩ := yh p n fun i hi => h i (by omega)
    obtain ⟨x, hx⟩ := h n (by omega)
    refine ⟨xs ++ [x], by simp [h1], fun i hi => ?_⟩
    by_cases he : i < xs.length
    · rw [List.getElem_append_left he]; exact h2 i he
    · have : i = n := by simp at hi; omega
      subst this
      rw [List.getElem_append_right (by omega)]
      simpa using hx
section
variable {H : Type} {enc : TypeId × Value → H} {P : Program} {W : World} {N : Nat} {sm : DataW H → Prop}
abbrev Old (W : World) (b : Nat) : Prop := b < W.heap.size
theorem wy {a : Addr} {v : Value} (h : W.cell? a = some v) : a.block < W.heap.size ∧ a.spot = none := by
  unfold World.cell? at h
  split at h
  · rename_i c T fz hb
    split at h
    · cases h
    · rename_i hs
      refine ⟨(Array.getElem?_eq_some_iff.1 hb).1, ?_⟩
      cases hq : a.spot with
      | none => rfl
      | some _ => rw [hq] at hs; exact absurd rfl hs
  · cases h
theorem sY {rec : TypeId → List Value → Option (DataW H × List MemPlace)} {ck : TypeId → Ty → Bool}
    (hrec : ∀ t τ cs y, rec t cs = some y → ck t τ = true → sm y.1 → ∃ x, Frz W (Old W) τ cs x ∧ τ.small N x) (cs : List Value) :
    ∀ (l : List (Nat × TypeId)) (o : Nat) (τ : Ty) (ys : List (DataW H × List MemPlace)), l.mapM (fun p => rec p.2 ((cs.drop p.1).take (P.cellsOf p.2))) = some ys → nT ck P.cellsOf l o τ = true →
      (∀ y ∈ ys, sm y.1) → cs.length = o + τ.cells → ∃ x, Frz W (Old W) τ (cs.drop o) x ∧ τ.small N x
  | [], o, τ, ys, h, hc, hs, hl => by
    cases τ <;> simp [nT] at hc
    refine ⟨(), ?_, trivial⟩
    simp only [Frz, List.drop_eq_nil_iff]
    simp [Ty.cells] at hl
    omega
  | [p], o, τ, ys, h, hc, hs, hl => by
    have hc : (p.1 == o && (P.cellsOf p.2 == τ.cells && ck p.2 τ)) = true := by
      cases τ <;> exact hc
    simp only [Bool.and_eq_true, beq_iff_eq] at hc
    obtain ⟨h1, h2, h3⟩ := hc
    obtain ⟨h4, h5⟩ := xT h
    match ys, h4 with
    | [y], _ =>
      have h6 := h5 0 (by simp) (by simp)
      simp only [List.getElem_cons_zero] at h6
      obtain ⟨x, hx⟩ := hrec _ _ _ _ h6 h3 (hs y (by simp))
      refine ⟨x, ?_⟩
      rw [h1, h2, List.take_of_length_le (by simp; omega)] at hx
      exact hx
  | p :: q :: r, o, τ, ys, h, hc, hs, hl => by
    cases τ with
    | pair a b =>
      simp only [nT, Bool.and_eq_true, beq_iff_eq] at hc
      obtain ⟨h1, h2, h3, h4⟩ := hc
      rw [List.mapM_cons] at h
      cases hy : rec p.2 ((cs.drop p.1).take (P.cellsOf p.2)) with
      | none => rw [hy] at h; cases h
      | some y =>
        cases hl' : (q :: r).mapM (fun p => rec p.2 ((cs.drop p.1).take (P.cellsOf p.2))) with
        | none => rw [hy, hl'] at h; cases h
        | some ys' =>
          rw [hy, hl'] at h
          cases h
          obtain ⟨x, hx⟩ := hrec _ _ _ _ hy h3 (hs y (by simp))
          simp only [Ty.cells] at hl
          obtain ⟨z, hz⟩ := sY hrec cs (q :: r) (o + a.cells) b ys' hl' h4 (fun z hz => hs z (List.mem_cons_of_mem _ hz)) (by omega)
          refine ⟨(x, z), ?_, hx.2, hz.2⟩
          simp only [Frz]
          refine ⟨_, _, ?_, hx.1, hz.1⟩
          rw [h1, h2, show cs.drop (o + a.cells) = (cs.drop o).drop a.cells by rw [List.drop_drop], List.take_append_drop]
    | _ => simp [nT] at hc
theorem oG (S : Sm N sm) (hN : N ≤ 2 ^ 20) : ∀ (fuel : Nat) {n : Nat} {t : TypeId} {τ : Ty} {cs : List Value} {y : DataW H × List MemPlace}, DataW.trod enc P W 0 (fun _ => true) true fuel t cs = some y →
    ph P n t τ = true → sm y.1 → ∃ x, Frz W (Old W) τ cs x ∧ τ.small N x
  | 0, _, _, _, _, _, h, _, _ => by simp [DataW.trod] at h
  | fuel + 1, 0, _, _, _, _, _, hc, _ => by simp [ph] at hc
  | fuel + 1, n + 1, t, τ, cs, y, h, hc, hs => by
    simp only [ph] at hc
    split at hc
    · rename_i k j hu
      split at hc
      case h_2 => cases hc
      rename_i hk _
      obtain ⟨hk⟩ := hk
      subst hk
      obtain ⟨m, rfl, rfl, hwf⟩ := DataW.trod_int hu h
      exact ⟨m, ⟨rfl, vF hwf⟩, trivial⟩
    · rename_i hu
      obtain ⟨b, rfl, rfl⟩ := DataW.trod_bool hu h
      exact ⟨b, rfl, trivial⟩
    · rename_i hu
      obtain ⟨s, rfl, rfl, _⟩ := DataW.trod_string hu h
      have h3 := S.str _ hs
      exact ⟨s.data.toList, ⟨rfl, by simp only [ll, decide_eq_true_eq]; omega⟩, h3⟩
    · rename_i e τ hu
      simp only [Bool.and_eq_true, beq_iff_eq, Bool.not_eq_true', beq_eq_false_iff_ne, decide_eq_true_eq] at hc
      obtain ⟨h1, h2, h3, h4⟩ := hc
      rcases DataW.trod_slice hu h with ⟨rfl, rfl⟩ | ⟨a, len, cap, elems, rest, m, hm, rfl, rfl, _, hlen, _, hel, hall, _, _⟩
      · refine ⟨[], ?_, by simp [Ty.small]⟩
        simp only [Frz]
        exact ⟨none, 0, rfl, Nat.le_refl _, by simp [mW], .inl trivial⟩
      · obtain ⟨rfl⟩ : fuel = m := by omega
        obtain ⟨s1, s2⟩ := S.sl _ _ hs
        simp only [List.length_map] at s1
        have key : ∀ i, i < len → ∃ x, (∃ us, us.length = τ.cells ∧ (a.block < W.heap.size ∧ a.spot = none) ∧ dD W a.block (a.off + i * τ.cells) us ∧ Frz W (Old W) τ us x) ∧ τ.small N x := by
          intro i hi
          have h5 := hall i hi
          rw [List.getElem?_eq_getElem (by omega)] at h5
          obtain ⟨us, h6, h7⟩ := Option.bind_eq_some_iff.1 h5
          obtain ⟨_, h8, h9⟩ := World.cells?_some h6
          obtain ⟨x, h10, h11⟩ := oG S hN fuel h7 h1 (s2 _ (List.mem_map.2 ⟨elems[i], List.getElem_mem _, rfl⟩))
          have hsp : a.block < W.heap.size ∧ a.spot = none := by
            have h12 := hall 0 (by omega)
            rw [List.getElem?_eq_getElem (by omega)] at h12
            obtain ⟨us', h13, _⟩ := Option.bind_eq_some_iff.1 h12
            obtain ⟨_, h14, h15⟩ := World.cells?_some h13
            have h16 := h15 0 (by omega)
            rw [List.getElem?_eq_getElem (by omega)] at h16
            have h17 := wy h16
            simpa [Addr.add] using h17
          refine ⟨x, ⟨us, by omega, hsp, fun k hk => ?_, h10⟩, h11⟩
          have h18 := h9 k (by omega)
          rw [List.getElem?_eq_getElem hk, h2] at h18
          rw [← h18]
          congr 1
          obtain ⟨ab, ao, asp⟩ := a
          obtain ⟨_, rfl⟩ := hsp
          unfold Addr.add
          by_cases hz : i * τ.cells = 0 <;> by_cases hz' : k = 0 <;> simp [hz, hz']
        obtain ⟨xs, g1, g2⟩ := yh _ len key
        refine ⟨xs, ?_, by omega, fun x hx => ?_⟩
        · simp only [Frz]
          refine ⟨some a, cap, by rw [g1], by omega, ?_, ?_⟩
          · have : xs.length * τ.lY ≤ 2 ^ 20 * 2 ^ 20 := Nat.mul_le_mul (by omega) h4
            simp only [mW, decide_eq_true_eq]
            omega
          · by_cases hx : xs = []
            · exact .inl hx
            · have h0 : 0 < xs.length := List.length_pos_iff.2 hx
              obtain ⟨⟨_, _, hsp, _⟩, _⟩ := g2 0 h0
              refine .inr ⟨a.block, a.off, ?_, hsp.1, fun i hi => ?_⟩
              · obtain ⟨ab, ao, asp⟩ := a
                obtain ⟨_, rfl⟩ := hsp
                rfl
              · obtain ⟨⟨us, q1, _, q3, q4⟩, _⟩ := g2 i hi
                exact ⟨us, q1, q3, q4⟩
        · obtain ⟨i, hi, rfl⟩ := List.getElem_of_mem hx
          exact (g2 i hi).2
    · rename_i _ _ fs hu
      simp only [Bool.and_eq_true, beq_iff_eq] at hc
      have h' : (if cs.length = P.cellsOf t then (fs.toList.mapM fun f => DataW.trod enc P W 0 (fun _ => true) true fuel f.type ((cs.drop f.offset).take (P.cellsOf f.type))).map fun xs => (DataW.agg (xs.map (·.1)), xs.flatMap (·.2)) else none) = some y := by
        unfold DataW.trod at h
        rw [hu] at h
        split at h <;> simp_all
      split at h'
      case isFalse => cases h'
      rename_i hlen
      obtain ⟨ys, q1, q2⟩ := Option.map_eq_some_iff.1 h'
      subst q2
      have q3 : (fs.toList.map fun f => (f.offset, f.type)).mapM (fun p => DataW.trod enc P W 0 (fun _ => true) true fuel p.2 ((cs.drop p.1).take (P.cellsOf p.2))) = some ys := by
        rw [List.mapM_map]; exact q1
      obtain ⟨x, hx⟩ := sY (P := P) (ck := ph P n) (fun t τ cs y a b c => oG S hN fuel a b c) cs _ 0 _ ys q3 hc.2 (fun y hy => S.agg _ hs _ (List.mem_map.2 ⟨y, hy, rfl⟩)) (by rw [hlen, hc.1]; exact (Nat.zero_add _).symm)
      exact ⟨x, by simpa using hx⟩
    · rename_i _ _ k e hu
      simp only [Bool.and_eq_true, beq_iff_eq] at hc
      have h' : (if cs.length = P.cellsOf t then ((List.range k).mapM fun i => DataW.trod enc P W 0 (fun _ => true) true fuel e ((cs.drop (i * P.cellsOf e)).take (P.cellsOf e))).map fun xs => (DataW.agg (xs.map (·.1)), xs.flatMap (·.2)) else none) = some y := by
        unfold DataW.trod at h
        rw [hu] at h
        split at h <;> simp_all
      split at h'
      case isFalse => cases h'
      rename_i hlen
      obtain ⟨ys, q1, q2⟩ := Option.map_eq_some_iff.1 h'
      subst q2
      have q3 : ((List.range k).map fun i => (i * P.cellsOf e, e)).mapM (fun p => DataW.trod enc P W 0 (fun _ => true) true fuel p.2 ((cs.drop p.1).take (P.cellsOf p.2))) = some ys := by
        rw [List.mapM_map]; exact q1
      obtain ⟨x, hx⟩ := sY (P := P) (ck := ph P n) (fun t τ cs y a b c => oG S hN fuel a b c) cs _ 0 _ ys q3 hc.2 (fun y hy => S.agg _ hs _ (List.mem_map.2 ⟨y, hy, rfl⟩)) (by rw [hlen, hc.1]; exact (Nat.zero_add _).symm)
      exact ⟨x, by simpa using hx⟩
    · cases hc
theorem xm {W' : World} (hw : ∀ b, b < W.heap.size → W'.heap[b]? = W.heap[b]?) {a : Addr} {n : Nat} {us : List Value} (h : W.cells? 0 a n = some us) : W'.cells? 0 a n = some us := by
  unfold World.cells? at h ⊢
  simp only [Nat.zero_le, if_true] at h ⊢
  refine pr h fun i _ v _ hv => ?_
  have h1 := wy hv
  rw [← hv]
  simp only [World.cell?, hw _ h1.1]
theorem qL {rec rec' : TypeId → List Value → Option (DataW H × List MemPlace)} {ck : TypeId → Ty → Bool} {ok : DataW H × List MemPlace → Prop}
    (hrec : ∀ t τ cs y, rec t cs = some y → ck t τ = true → ok y → rec' t cs = some y) (cs : List Value) :
    ∀ (l : List (Nat × TypeId)) (o : Nat) (τ : Ty) (ys : List (DataW H × List MemPlace)), l.mapM (fun p => rec p.2 ((cs.drop p.1).take (P.cellsOf p.2))) = some ys → nT ck P.cellsOf l o τ = true →
      (∀ y ∈ ys, ok y) → l.mapM (fun p => rec' p.2 ((cs.drop p.1).take (P.cellsOf p.2))) = some ys
  | [], o, τ, ys, h, _, _ => by simpa using h
  | [p], o, τ, ys, h, hc, hs => by
    have hc : (p.1 == o && (P.cellsOf p.2 == τ.cells && ck p.2 τ)) = true := by
      cases τ <;> exact hc
    simp only [Bool.and_eq_true, beq_iff_eq] at hc
    refine pr h fun q hq y hy hr => ?_
    obtain rfl := List.mem_singleton.1 hq
    exact hrec _ _ _ _ hr hc.2.2 (hs y hy)
  | p :: q :: r, o, τ, ys, h, hc, hs => by
    cases τ with
    | pair a b =>
      simp only [nT, Bool.and_eq_true, beq_iff_eq] at hc
      obtain ⟨h1, h2, h3, h4⟩ := hc
      rw [List.mapM_cons] at h ⊢
      cases hy : rec p.2 ((cs.drop p.1).take (P.cellsOf p.2)) with
      | none => rw [hy] at h; cases h
      | some y =>
        cases hl' : (q :: r).mapM (fun p => rec p.2 ((cs.drop p.1).take (P.cellsOf p.2))) with
        | none => rw [hy, hl'] at h; cases h
        | some ys' =>
          rw [hy, hl'] at h
          cases h
          rw [hrec _ _ _ _ hy h3 (hs y (by simp)), qL hrec cs (q :: r) _ b ys' hl' h4 fun z hz => hs z (List.mem_cons_of_mem _ hz)]
          rfl
    | _ => simp [nT] at hc
theorem pj {W' : World} {sp : Nat → Bool} (hw : ∀ b, b < W.heap.size → W'.heap[b]? = W.heap[b]?) : ∀ (fuel : Nat) {n : Nat} {t : TypeId} {τ : Ty} {cs : List Value} {y : DataW H × List MemPlace}, DataW.trod enc P W 0 (fun _ => true) true fuel t cs = some y →
    ph P n t τ = true → (∀ p ∈ y.2, sp p.block = true) → DataW.trod enc P W' 0 sp true fuel t cs = some y
  | 0, _, _, _, _, _, h, _, _ => by simp [DataW.trod] at h
  | fuel + 1, 0, _, _, _, _, _, hc, _ => by simp [ph] at hc
  | fuel + 1, n + 1, t, τ, cs, y, h, hc, hs => by
    simp only [ph] at hc
    split at hc
    · rename_i k j hu
      obtain ⟨m, rfl, rfl, hwf⟩ := DataW.trod_int hu h
      unfold DataW.trod at h ⊢
      simpa [hu] using h
    · rename_i hu
      obtain ⟨b, rfl, rfl⟩ := DataW.trod_bool hu h
      unfold DataW.trod at h ⊢
      simpa [hu] using h
    · rename_i hu
      obtain ⟨s, rfl, rfl, _⟩ := DataW.trod_string hu h
      unfold DataW.trod at h ⊢
      simpa [hu] using h
    · rename_i e τ hu
      simp only [Bool.and_eq_true, beq_iff_eq, Bool.not_eq_true', beq_eq_false_iff_ne, decide_eq_true_eq] at hc
      obtain ⟨h1, h2, h3, h4⟩ := hc
      have h0 := h
      rcases DataW.trod_slice hu h with ⟨rfl, rfl⟩ | ⟨a, len, cap, elems0, rest0, m, hm, rfl, rfl, _, hlen, _, hel, hall, hsp, _⟩
      · unfold DataW.trod at h ⊢
        simpa [hu] using h
      · obtain ⟨rfl⟩ : fuel = m := by omega
        have hrl := (hsp rfl).1
        have hspa : elems0.length + rest0.length ≠ 0 → sp a.block = true := fun hne => by
          have hpos : 0 < (elems0.length + rest0.length) * P.cellsOf e := Nat.mul_pos (by omega) (by omega)
          refine hs (.cell a.block (a.off + 0)) (List.mem_append_left _ ?_)
          exact List.mem_map.2 ⟨0, List.mem_range.2 hpos, rfl⟩
        unfold DataW.trod at h ⊢
        simp only [hu, Nat.zero_le, true_and] at h ⊢
        split at h
        case isFalse => cases h
        rename_i hb
        rw [if_pos hb]
        simp only [Option.bind_eq_some_iff, Option.map_eq_some_iff] at h
        obtain ⟨elems, he, rest, hr, hy⟩ := h
        simp only [Prod.mk.injEq, DataW.slice.injEq] at hy
        have hel' : ∀ (l : List Nat) (ys : List (DataW H × List MemPlace)) (g : Nat → Nat), (∀ z ∈ ys, ∀ p ∈ z.2, sp p.block = true) → l.mapM (fun i => (W.cells? 0 (a.add (g i * P.cellsOf e)) (P.cellsOf e)).bind (DataW.trod enc P W 0 (fun _ => true) true fuel e)) = some ys →
            l.mapM (fun i => (W'.cells? 0 (a.add (g i * P.cellsOf e)) (P.cellsOf e)).bind (DataW.trod enc P W' 0 sp true fuel e)) = some ys := fun l ys g hz h => by
          refine pr h fun i _ z hz' hi => ?_
          obtain ⟨us, q1, q2⟩ := Option.bind_eq_some_iff.1 hi
          rw [xm hw q1]
          exact pj hw fuel q2 h1 (hz z hz')
        have hplaces : ∀ z ∈ elems ++ rest, ∀ p ∈ z.2, sp p.block = true := fun z hz p hp => hs p (by
          rw [← hy.2]
          exact List.mem_append_right _ (List.mem_flatMap.2 ⟨z, hz, hp⟩))
        have hr' : (List.range (cap - len)).mapM (fun j => (W.cells? 0 (a.add ((len + j) * P.cellsOf e)) (P.cellsOf e)).bind (DataW.trod enc P W 0 (fun _ => true) true fuel e)) = some rest := by simpa using hr
        rw [hel' _ elems (fun i => i) (fun z hz => hplaces z (List.mem_append_left _ hz)) he]
        have hr2 := hel' _ rest (fun j => len + j) (fun z hz => hplaces z (List.mem_append_right _ hz)) hr'
        have hsel : (if sp a.block = true then (List.range (cap - len)).mapM (fun j => (W'.cells? 0 (a.add ((len + j) * P.cellsOf e)) (P.cellsOf e)).bind (DataW.trod enc P W' 0 sp true fuel e)) else some []) = some rest := by
          by_cases hq : sp a.block = true
          · rw [if_pos hq]; exact hr2
          · rw [if_neg hq]
            have : rest = [] := by
              by_cases hz : elems0.length + rest0.length = 0
              · have h5 : cap - len = 0 := by omega
                rw [h5] at hr'
                simpa using hr'.symm
              · exact absurd (hspa hz) hq
            rw [this]
        simp only [Option.bind_some, hsel, Option.map_some]
        rw [hy.1.1, hy.1.2, hy.2]
    · rename_i _ _ fs hu
      simp only [Bool.and_eq_true, beq_iff_eq] at hc
      have h' : (if cs.length = P.cellsOf t then (fs.toList.mapM fun f => DataW.trod enc P W 0 (fun _ => true) true fuel f.type ((cs.drop f.offset).take (P.cellsOf f.type))).map fun xs => (DataW.agg (xs.map (·.1)), xs.flatMap (·.2)) else none) = some y := by
        unfold DataW.trod at h
        rw [hu] at h
        split at h <;> simp_all
      split at h'
      case isFalse => cases h'
      rename_i hlen
      obtain ⟨ys, q1, q2⟩ := Option.map_eq_some_iff.1 h'
      have q3 : (fs.toList.map fun f => (f.offset, f.type)).mapM (fun p => DataW.trod enc P W 0 (fun _ => true) true fuel p.2 ((cs.drop p.1).take (P.cellsOf p.2))) = some ys := by
        rw [List.mapM_map]; exact q1
      have q4 := qL (P := P) (ck := ph P n) (rec' := DataW.trod enc P W' 0 sp true fuel) (ok := fun y => ∀ p ∈ y.2, sp p.block = true) (fun t τ cs y a b c => pj hw fuel a b c) cs _ 0 _ ys q3 hc.2
        (fun y hy p hp => hs p (by rw [← q2]; exact List.mem_flatMap.2 ⟨y, hy, hp⟩))
      rw [List.mapM_map] at q4
      have q5 : (fs.toList.mapM fun f => DataW.trod enc P W' 0 sp true fuel f.type ((cs.drop f.offset).take (P.cellsOf f.type))) = some ys := q4
      unfold DataW.trod
      rw [hu]
      rw [← q2]
      split <;> simp_all
    · rename_i _ _ k e hu
      simp only [Bool.and_eq_true, beq_iff_eq] at hc
      have h' : (if cs.length = P.cellsOf t then ((List.range k).mapM fun i => DataW.trod enc P W 0 (fun _ => true) true fuel e ((cs.drop (i * P.cellsOf e)).take (P.cellsOf e))).map fun xs => (DataW.agg (xs.map (·.1)), xs.flatMap (·.2)) else none) = some y := by
        unfold DataW.trod at h
        rw [hu] at h
        split at h <;> simp_all
      split at h'
      case isFalse => cases h'
      rename_i hlen
      obtain ⟨ys, q1, q2⟩ := Option.map_eq_some_iff.1 h'
      have q3 : ((List.range k).map fun i => (i * P.cellsOf e, e)).mapM (fun p => DataW.trod enc P W 0 (fun _ => true) true fuel p.2 ((cs.drop p.1).take (P.cellsOf p.2))) = some ys := by
        rw [List.mapM_map]; exact q1
      have q4 := qL (P := P) (ck := ph P n) (rec' := DataW.trod enc P W' 0 sp true fuel) (ok := fun y => ∀ p ∈ y.2, sp p.block = true) (fun t τ cs y a b c => pj hw fuel a b c) cs _ 0 _ ys q3 hc.2
        (fun y hy p hp => hs p (by rw [← q2]; exact List.mem_flatMap.2 ⟨y, hy, hp⟩))
      rw [List.mapM_map] at q4
      have q5 : ((List.range k).mapM fun i => DataW.trod enc P W' 0 sp true fuel e ((cs.drop (i * P.cellsOf e)).take (P.cellsOf e))) = some ys := q4
      unfold DataW.trod
      rw [hu]
      rw [← q2]
      split <;> simp_all
    · cases hc
end
end Go.Mach
namespace Go.Mach
namespace Res
variable {α β γ : Type} {Q : β → Prop}
theorem cG {Q : α → Prop} {a : α} (h : Q a) : (Res.ok a).sat Q := h
theorem om {Q Q' : α → Prop} {m : Res α} (h : m.sat Q) (hq : ∀ a, Q a → Q' a) : m.sat Q' := by
  exact uE hq h
theorem AF {m : Res α} {k : α → Res β} (h : m.sat fun a => (k a).sat Q) : (m.bind k).sat Q := by
  exact sG h
theorem kF {m : Res α} {k : α → Res β} {R : α → Prop} (h : m.sat R) (hk : ∀ a, R a → (k a).sat Q) : (m.bind k).sat Q := AF (om h hk)
theorem ah {m : Res α} {k : α → Res β} {a : α} (h : m.sat (· = a)) (hk : (k a).sat Q) : (m.bind k).sat Q := kF h fun _ e => e ▸ hk
theorem cH {b : Bool} {k : Res β} (h : b = true → k.sat Q) : (given b k).sat Q := by
  exact h
theorem kv {b : Bool} {k : Res β} (hb : b = true) (h : k.sat Q) : (ai b k).sat Q := by
  subst hb; exact h
theorem mi {b : Bool} {x y : Res β} (h1 : b = true → x.sat Q) (h2 : b = false → y.sat Q) : (br b x y).sat Q := by
  cases b <;> simp_all [br]
theorem kg {t : Ty} {xs : List t.den} {i : Int} {k : t.den → Res β} (h0 : 0 ≤ i) (h1 : i.toNat < xs.length) (h : ∀ x, xs[i.toNat]? = some x → t.ok x = true → (k x).sat Q) : (idx t xs i k).sat Q := by
  unfold idx
  rw [decide_eq_true h0, List.getElem?_eq_getElem h1]
  exact cH fun hk => h _ (List.getElem?_eq_getElem h1) hk
theorem kY {s : Sh} {xs : List s.den} {i : Int} {k : s.den → Res β} (h0 : 0 ≤ i) (h1 : i.toNat < xs.length) (h : ∀ x, xs[i.toNat]? = some x → s.ok x = true → (k x).sat Q) : (eN s xs i k).sat Q := by
  unfold eN
  rw [decide_eq_true h0, List.getElem?_eq_getElem h1]
  exact cH fun hk => h _ (List.getElem?_eq_getElem h1) hk
theorem rY {f : α → Res (Step α β)} (I : Nat → α → Prop) (h : ∀ k a, I k a → (f a).sat fun
      | .next a' => ∃ k', k' < k ∧ I k' a'
      | .done b => Q b) : ∀ (n k : Nat) (a : α), k < n → I k a → (loop f n a).sat Q
  | 0, _, _, hk, _ => by omega
  | n + 1, k, a, hk, hI => by
    unfold loop
    refine kF (h k a hI) fun s hs => ?_
    cases s with
    | next a' =>
      obtain ⟨k', h1, h2⟩ := hs
      exact rY I h n k' a' (by omega) h2
    | done b => exact hs
theorem mT {f : α → Res (Step α β)} (ix : α → Int) (n : Nat) (hn : n < 2 ^ 69) (I : α → Prop) {a : α} (ha : I a) (hix : ∀ a, I a → 0 ≤ ix a ∧ ix a ≤ n)
    (h : ∀ a, I a → (f a).sat fun
      | .next a' => ix a' = ix a + 1 ∧ I a'
      | .done b => Q b) : (loop f fuel a).sat Q := by
  refine rY (fun k a => I a ∧ k = n - (ix a).toNat) (fun k a ⟨hI, hk⟩ => ?_) _ (n - (ix a).toNat) a (Nat.lt_of_le_of_lt (Nat.sub_le _ _) (Nat.lt_trans hn (by decide))) ⟨ha, rfl⟩
  refine om (h a hI) fun s hs => ?_
  cases s with
  | next a' =>
    obtain ⟨h1, h2⟩ := hs
    have h3 := hix a hI
    have h4 := hix a' h2
    exact ⟨_, by omega, h2, rfl⟩
  | done b => exact hs
end Res
theorem wrap64 {n : Int} (h : -9223372036854775808 ≤ n ∧ n < 9223372036854775808) : IntKind.wrap .i64 n = n := by
  simp [IntKind.wrap, IntKind.signed, IntKind.bits]
  omega
theorem ka {a b : Int} : (ilt a b = true) = (a < b) := by simp [ilt]
theorem rh {a b : Int} : (ile a b = true) = (a ≤ b) := by simp [ile]
theorem lP {a b : Int} : (ilt a b = false) = (b ≤ a) := by simp [ilt]
theorem pJ {a b : Int} : (ile a b = false) = (b < a) := by simp [ile]
theorem BD (x y : Int) : qA x y = max x y := by unfold qA; split <;> omega
theorem idx0 (i : Int) : ((0 : Int) + (i.toNat : Int)).toNat = i.toNat := by omega
theorem nk {α : Type} {xs : List α} {i : Nat} {x : α} (h : xs[i]? = some x) : xs.set i x = xs := by
  apply List.ext_getElem?
  intro j
  rw [List.getElem?_set]
  split
  · subst_vars; split
    · exact h.symm
    · rename_i hl; rw [List.getElem?_eq_none (by omega)]
  · rfl
end Go.Mach
namespace Go.Mach
namespace Res
variable {α β : Type} {Q : β → Prop}
theorem ly {b : Bool} {x y : Res β} (h : b = true) (hx : x.sat Q) : (br b x y).sat Q := by subst h; exact hx
theorem fW {b : Bool} {x y : Res β} (h : b = false) (hx : y.sat Q) : (br b x y).sat Q := by subst h; exact hx
theorem oE {γ δ : Type} {a : γ} {f : γ → Res β} {g : δ → Res β} (h : (f a).sat Q) : (sum (.inl a) f g).sat Q := h
theorem Bi {γ δ : Type} {a : δ} {f : γ → Res β} {g : δ → Res β} (h : (g a).sat Q) : (sum (.inr a) f g).sat Q := h
end Res
namespace Res
end Res
end Go.Mach
namespace Go.Mach
open Res
class Safe {α : Type} (m : Res α) : Prop where
  ok : m.sat fun _ => True
namespace Safe
variable {α β γ : Type}
instance {a : α} : Safe (Res.ok a) := ⟨trivial⟩
theorem g' {b : Bool} {k : Res α} (h : Safe k) : Safe (given b k) := ⟨fun _ => h.ok⟩
end Safe
class SafeE {α : Type} (m : Res α) (v : outParam α) : Prop where
  ok : m.sat (· = v)
instance (priority := low) {α : Type} {m : Res α} {v : α} [h : SafeE m v] : Safe m := ⟨Res.om h.ok fun _ _ => trivial⟩
class AZ {α : Type} (m : Res α) (P : outParam (α → Prop)) : Prop where
  ok : m.sat P
instance (priority := low) {α : Type} {m : Res α} {P : α → Prop} [h : AZ m P] : Safe m := ⟨Res.om h.ok fun _ _ => trivial⟩
namespace Res
variable {α β : Type} {Q : β → Prop}
end Res
end Go.Mach
namespace Go.Mach
open Go.ChangeShapes Go.RowKit
def Sh.qY : Sh → Bool
  | .frz _ => true
  | .own s => s.qY
  | .seq a b => a.qY && b.qY
  | _ => false
def qZ (P : Program) (t : TypeId) : Par → Bool
  | .val g (.frz τ) => (g == ny P t) && ph P 20 t τ
  | .val g (.bor s) => (g == ny P t) && (s.qY && ph P 20 t s.ty)
  | _ => false
def px (P : Program) : List TypeId → List Par → Bool
  | [], [] => true
  | t :: ts, p :: ps => qZ P t p && px P ts ps
  | _, _ => false
def smalls (n : Nat) : (ps : List VSh) → lA ps → Prop
  | [], _ => True
  | [a], x => a.2.ty.small n x
  | a :: b :: r, x => a.2.ty.small n x.1 ∧ smalls n (b :: r) x.2
section
variable {W : World} {Z V : Nat → Prop}
theorem pY : ∀ {s : Sh}, s.qY = true → s.cells = s.ty.cells
  | .frz _, _ => rfl
  | .own _, _ => rfl
  | .seq a b, h => by
    simp only [Sh.qY, Bool.and_eq_true] at h
    simp only [Sh.cells, Sh.ty, Ty.cells, pY h.1, pY h.2]
theorem se : ∀ {s : Sh}, s.qY = true → s.lY = s.ty.lY
  | .frz _, _ => rfl
  | .own _, _ => rfl
  | .seq a b, h => by
    simp only [Sh.qY, Bool.and_eq_true] at h
    simp only [Sh.lY, Sh.ty, Ty.lY, se h.1, se h.2]
theorem o7 (hz : ∀ b, Z b → V b) : ∀ {s : Sh} {us : List Value} {x : s.den}, s.qY = true → Frz W Z s.ty us x → BR W Z V s us x
  | .frz _, _, _, _, h => h
  | .own s, us, xs, hl, h => by
    simp only [Sh.ty, Frz] at h
    simp only [BR]
    obtain ⟨a, cap, h1, h2, h3, h4⟩ := h
    refine ⟨a, cap, h1, h2, ?_, h4.imp id ?_⟩
    · simpa [gg, mW, se (s := s) hl] using h3
    · rintro ⟨b, o, h5, h6, h7⟩
      refine ⟨b, o, h5, hz b h6, fun i hi => ?_⟩
      obtain ⟨us, h8, h9, h10⟩ := h7 i hi
      rw [pY (s := s) hl]
      exact ⟨us, h8, h9, o7 hz (s := s) hl h10⟩
  | .seq a b, us, x, hl, h => by
    simp only [Sh.qY, Bool.and_eq_true] at hl
    simp only [Sh.ty, Frz] at h
    simp only [BR]
    obtain ⟨u1, u2, h1, h2, h3⟩ := h
    exact ⟨u1, u2, h1, o7 hz hl.1 h2, o7 hz hl.2 h3⟩
end
section
variable {H : Type} {enc : TypeId × Value → H} {P : Program} {W : World} {N : Nat} {sm : DataW H → Prop}
theorem uC {r : Reach} {b0 : Nat} {t : TypeId} {τ : Ty} {v : Value} (hc : ph P 20 t τ = true) (h : Value.okWide P W r b0 t v) : rA (ny P t) v.cells.toList v := by
  unfold ny
  unfold Value.okWide at h
  have hc : ph P (19 + 1) t τ = true := hc
  unfold ph at hc
  cases hu : P.underlying t with
  | none => simp [hu] at hc
  | some D =>
    rw [hu] at hc h
    have one : ∀ {w : Value}, Cell.okWide P W r b0 t w → (∀ cs, w ≠ .agg cs) → rA false w.cells.toList w := fun {w} _ hw => by
      cases w <;> simp [rA, Value.cells] at hw ⊢
    have noagg : ∀ {cs : Array Value}, (D = .bool ∨ D = .string ∨ (∃ k, D = .int k) ∨ ∃ e, D = .slice e) → ¬ Cell.okWide P W r b0 t (.agg cs) := fun {cs} hd h => by
      unfold Cell.okWide Cell.ok at h
      rw [hu] at h
      rcases hd with rfl | rfl | ⟨k, rfl⟩ | ⟨e, rfl⟩ <;> simp at h
    cases D with
    | bool => exact one h fun cs he => noagg (.inl rfl) (he ▸ h)
    | string => exact one h fun cs he => noagg (.inr (.inl rfl)) (he ▸ h)
    | int k => exact one h fun cs he => noagg (.inr (.inr (.inl ⟨k, rfl⟩))) (he ▸ h)
    | slice e => exact one h fun cs he => noagg (.inr (.inr (.inr ⟨e, rfl⟩))) (he ▸ h)
    | struct fs => obtain ⟨cs, rfl, _⟩ := h; simp [rA, Value.cells]
    | array n e => obtain ⟨cs, rfl, _⟩ := h; simp [rA, Value.cells]
    | _ => cases τ <;> cases hc
theorem wm (S : Sm N sm) (hN : N ≤ 2 ^ 20) {r : Reach} {b0 : Nat} {t : TypeId} {v : Value} {d : DataW H} {ps : List MemPlace} {p : Par} (h : DataW.Trod enc P W 0 (fun _ => true) true t v d ps) (hv : Value.okWide P W r b0 t v)
    (hc : qZ P t p = true) (hs : sm d) (T : Nat → Prop) : ∃ x : p.v.2.den, ox W (Old W) (fun _ => False) p.v v x T ∧ p.v.2.ty.small N x := by
  obtain ⟨fuel, h⟩ := h
  match p with
  | .obj _ => simp [qZ] at hc
  | .val g s =>
    cases s with
    | frz τ =>
      simp only [qZ, Bool.and_eq_true, beq_iff_eq] at hc
      obtain ⟨rfl, hc⟩ := hc
      obtain ⟨x, h1, h2⟩ := oG S hN fuel h hc hs
      exact ⟨x, ⟨_, uC hc hv, h1.length, h1⟩, h2⟩
    | bor s =>
      simp only [qZ, Bool.and_eq_true, beq_iff_eq] at hc
      obtain ⟨rfl, hl, hc⟩ := hc
      obtain ⟨x, h1, h2⟩ := oG S hN fuel h hc hs
      refine ⟨x, ⟨_, uC hc hv, ?_, ?_⟩, h2⟩
      · exact h1.length.trans (pY hl).symm
      · exact o7 (fun b hb => .inr hb) hl h1
    | _ => simp [qZ] at hc
theorem rX (S : Sm N sm) (hN : N ≤ 2 ^ 20) {r : Reach} {b0 : Nat} : ∀ {ts : List TypeId} {vs : List Value} {ds : List (DataW H)} {q : List MemPlace} {ps : List Par}, DataW.TrodAll enc P W 0 (fun _ => true) true ts vs ds q →
    (∀ (j : Nat) t v, ts[j]? = some t → vs[j]? = some v → Value.okWide P W r b0 t v) → px P ts ps = true → (∀ d ∈ ds, sm d) →
    ∃ x : lA (ps.map Par.v), lH W (Old W) (fun _ => False) (ps.map Par.v) vs x (fun _ => False) ∧ smalls N (ps.map Par.v) x
  | [], vs, ds, q, ps, h, hv, hc, hs => by
    obtain ⟨rfl, rfl, rfl⟩ := trodAll_nil h
    match ps, hc with
    | [], _ => exact ⟨(), rfl, trivial⟩
  | t :: ts, vs, ds, q, ps, h, hv, hc, hs => by
    obtain ⟨v, vs', d, ds', p1, p2, rfl, rfl, rfl, h1, h2⟩ := trodAll_cons h
    match ps, hc with
    | p :: ps, hc =>
      simp only [px, Bool.and_eq_true] at hc
      obtain ⟨x, g1, g2⟩ := wm S hN h1 (hv 0 t v rfl rfl) hc.1 (hs d (by simp)) (fun _ => False)
      obtain ⟨y, g3, g4⟩ := rX S hN h2 (fun j t v ht hv' => hv (j + 1) t v (by simpa using ht) (by simpa using hv')) hc.2 (fun d hd => hs d (List.mem_cons_of_mem _ hd))
      match ps, y, g3, g4 with
      | [], y, g3, g4 =>
        obtain rfl : vs' = [] := g3
        exact ⟨x, ⟨v, rfl, g1⟩, g2⟩
      | p' :: r, y, g3, g4 => exact ⟨(x, y), ⟨v, vs', fun _ => False, fun _ => False, rfl, fun _ h => h, fun _ h => h, fun _ h _ => h, g1, g3⟩, g2, g4⟩
theorem qz {W' : World} {sp : Nat → Bool} (hw : ∀ b, b < W.heap.size → W'.heap[b]? = W.heap[b]?) : ∀ {ts : List TypeId} {vs : List Value} {ds : List (DataW H)} {q : List MemPlace} {ps : List Par}, DataW.TrodAll enc P W 0 (fun _ => true) true ts vs ds q →
    px P ts ps = true → (∀ p ∈ q, sp p.block = true) → DataW.TrodAll enc P W' 0 sp true ts vs ds q
  | [], vs, ds, q, ps, h, hc, hs => by
    obtain ⟨rfl, rfl, rfl⟩ := trodAll_nil h
    exact trodAll_mk0
  | t :: ts, vs, ds, q, ps, h, hc, hs => by
    obtain ⟨v, vs', d, ds', p1, p2, rfl, rfl, rfl, ⟨fuel, h1⟩, h2⟩ := trodAll_cons h
    match ps, hc with
    | p :: ps, hc =>
      simp only [px, Bool.and_eq_true] at hc
      have hck : ∃ τ, ph P 20 t τ = true := by
        match p, hc.1 with
        | .val g (.frz τ), hc => simp only [qZ, Bool.and_eq_true] at hc; exact ⟨_, hc.2⟩
        | .val g (.bor s), hc => simp only [qZ, Bool.and_eq_true] at hc; exact ⟨_, hc.2.2⟩
      obtain ⟨τ, hck⟩ := hck
      exact ⟨p1, p2, ⟨fuel, pj hw fuel h1 hck fun p hp => hs p (List.mem_append_left _ hp)⟩, qz hw h2 hc.2 fun p hp => hs p (List.mem_append_right _ hp), rfl⟩
theorem sc {f : Func} {s : ChangeSpec} {apart fresh handsOn again : Bool} {W W' : World} {args : Array Value} {v : Value} {ds gs : List (DataW H)} {before pa pv : List MemPlace}
    (hW : DataW.Whole enc P f.params.toList s.vars apart W args.toList ds gs before)
    (hres : ∀ (b : Nat) (sp : Nat → Bool) (hd : Bool), DataW.TrodAll enc P W' b sp hd f.resultTypes.toList (v.resultList f.resultTypes.size) (s.fn H (ds ++ gs)).results [])
    (hargs : ∀ sp : Nat → Bool, (∀ p ∈ before, sp p.block = true) → DataW.TrodAll enc P W' 0 sp true f.params.toList args.toList (s.fn H (ds ++ gs)).args pa)
    (hvars : ∀ sp : Nat → Bool, (∀ p ∈ before, sp p.block = true) → DataW.TrodVars enc P W' sp s.vars (s.fn H (ds ++ gs)).vars pv)
    (hps : before = pa ++ pv) (hk : W.keptBut W' (· ∈ before)) (hfz : ∀ a, a.block < W.heap.size → W'.frozen? a = W.frozen? a)
    (hok : ∀ (j : Nat) (t : TypeId) (r : Value), f.resultTypes[j]? = some t → (v.resultList f.resultTypes.size)[j]? = some r → Value.okWide P W' .any 0 t r) :
    s.post enc P f apart fresh handsOn again W args v W' := by
  have hold : ∀ p ∈ before, (fun b => decide (b < W.heap.size)) p.block = true := fun p hp => by simpa using hW.lt p hp
  have hlt := hW.lt
  refine ⟨ds, gs, before, [], pa, pv, hW, hres _ _ _, hargs _ hold, hvars _ hold, World.keptBut_mono (fun p hp => ⟨hp, ?_⟩) hk, fun _ => ?_⟩
  · rw [hps, List.mem_append] at hp
    exact Or.inr hp
  · obtain ⟨_, _, _, _, _, hz, hn⟩ := hW
    refine ⟨hok, _, _, ([] ++ pa) ++ pv, ⟨[] ++ pa, pv, trodAll_append (hargs _ (fun _ _ => rfl)) (hres _ _ _), hvars _ (fun _ _ => rfl), rfl, ?_, ?_⟩, ?_⟩
    · intro b off hp
      have hp' : MemPlace.cell b off ∈ before := by rw [hps]; simpa using hp
      rw [hfz _ (hlt _ hp')]
      exact hz b off hp'
    · intro ha
      have := hn ha
      rw [hps] at this
      simpa using this
    · intro p hp _
      rw [hps]
      simpa using hp
theorem wt {W' : World} {a : Addr} (hw : W'.heap[a.block]? = W.heap[a.block]?) : W'.frozen? a = W.frozen? a := by
  simp only [World.frozen?, hw]
theorem A2 {f : FuncId} {fn : Func} {ps : List Par} {run : lA (ps.map Par.v) → Res (outs Bool (boxes ps))} {s : ChangeSpec} {apart fresh handsOn again : Bool} {tb : TypeId}
    {G : pR} (hct : iV P G ⟨f, ps, [(false, .frz .bool)], run⟩) (hck : px P fn.params.toList ps = true) (hN : N ≤ 2 ^ 20) (hvars : s.vars = []) (hrt : fn.resultTypes = #[tb]) (htb : P.underlying tb = some .bool)
    (hspec : ∀ ds : List (DataW H), ds.length = fn.params.toList.length → s.fn H ds = { results := [.lit (.bool true)], args := ds })
    (hlaw : ∀ x, smalls N (ps.map Par.v) x → (run x).sat fun y => lx (boxes ps) y = true)
    (S : Sm N sm) (hG : G.At W (Old W)) {base : Nat} {args : Array Value} {ds gs : List (DataW H)} {before : List MemPlace}
    (hval : ∀ (j : Nat) t v, fn.params[j]? = some t → args[j]? = some v → Value.okWide P W .any base t v)
    (hW : DataW.Whole enc P fn.params.toList s.vars apart W args.toList ds gs before) (hsm : ∀ d ∈ ds, sm d) :
    Calls P f args W fun e W' => ∃ v, e = .returned v ∧ s.post enc P fn apart fresh handsOn again W args v W' := by
  have hW' := hW
  obtain ⟨p, q, hA, hV, hpq, _, _⟩ := hW
  rw [hvars] at hV
  obtain ⟨hgs, hq⟩ := trodVars_none hV
  obtain ⟨x, hx, hxs⟩ := rX S hN hA (fun j t v ht hv => hval j t v (by simpa using ht) (by simpa using hv)) hck hsm
  have hlen : ds.length = fn.params.toList.length := by
    have : ∀ {ts : List TypeId} {vs : List Value} {ds : List (DataW H)} {ps : List MemPlace}, DataW.TrodAll enc P W 0 (fun _ => true) true ts vs ds ps → ds.length = ts.length := by
      intro ts
      induction ts with
      | nil => intro vs ds ps h; obtain ⟨_, rfl, _⟩ := trodAll_nil h; rfl
      | cons t ts ih => intro vs ds ps h; obtain ⟨_, _, _, _, _, _, _, rfl, _, _, h2⟩ := trodAll_cons h; simp [ih h2]
    exact this hA
  have hsp := hspec ds hlen
  have hcall := hct.run W (Old W) (fun _ => False) (fun _ => False) args.toList x _ (hlaw x hxs) hG (fun _ h => h) (fun _ h => h.elim) (fun _ h => h.elim) hx
  have harr : args.toList.toArray = args := by simp
  rw [harr] at hcall
  refine hcall.mono ?_
  rintro e W' ⟨y, v, kO, Z', S1, S2, rfl, hy, hret, hv1, _, _, _, _, _, hsz, hkeep, hio⟩
  have hkeep' : ∀ b, b < W.heap.size → W'.heap[b]? = W.heap[b]? := fun b hb => hkeep b hb fun h => h
  have hvb : v = .bool true := by
    obtain ⟨v', rfl, us, hf, _, hsr⟩ := hv1
    have hret : [v'] = [v] := hret
    cases hret
    have hf : us = [v] := hf
    have hsr : us = [.bool (lx (boxes ps) y)] := hsr
    rw [hf, hy] at hsr
    simpa using hsr
  subst hvb
  refine ⟨_, rfl, sc (pa := p) (pv := q) hW' ?_ ?_ ?_ hpq ⟨hio.1, hio.2.1, fun i hi => ?_⟩ (fun a ha => wt (hkeep' _ ha)) (ok_one hrt rfl (okWide_bool_mk htb _))⟩
  · intro b sp hd
    rw [hgs, List.append_nil, hsp, hrt]
    exact trodAll_mk1 (shut_bool htb _)
  · intro sp hsp'
    rw [hgs, List.append_nil, hsp]
    exact qz hkeep' hA hck fun p hp => hsp' p (by rw [hpq]; exact List.mem_append_left _ hp)
  · intro sp _
    rw [hgs, List.append_nil, hsp, hvars, hq]
    rfl
  · rw [hkeep' i hi]
    split <;> simp_all
theorem zH {f : FuncId} {fn : Func} {ps : List Par} {run : lA (ps.map Par.v) → Res (outs Bool (boxes ps))} {s : ChangeSpec} {apart fresh handsOn again : Bool} {tb : TypeId}
    {G : pR} (hct : iV P G ⟨f, ps, [(false, .frz .bool)], run⟩) (hck : px P fn.params.toList ps = true) (hN : N ≤ 2 ^ 20) (hvars : s.vars = []) (hrt : fn.resultTypes = #[tb]) (htb : P.underlying tb = some .bool)
    (hspec : ∀ ds : List (DataW H), ds.length = fn.params.toList.length → s.fn H ds = { results := [.lit (.bool true)], args := ds })
    (hlaw : ∀ x, smalls N (ps.map Par.v) x → AZ (run x) fun y => lx (boxes ps) y = true)
    (S : Sm N sm) (hG : G.At W (Old W)) {base : Nat} {args : Array Value} {ds gs : List (DataW H)} {before : List MemPlace}
    (hval : ∀ (j : Nat) t v, fn.params[j]? = some t → args[j]? = some v → Value.okWide P W .any base t v)
    (hW : DataW.Whole enc P fn.params.toList s.vars apart W args.toList ds gs before) (hsm : ∀ d ∈ ds, sm d) :
    Calls P f args W fun e W' => ∃ v, e = .returned v ∧ s.post enc P fn apart fresh handsOn again W args v W' :=
  A2 hct hck hN hvars hrt htb hspec (fun x hx => (hlaw x hx).ok) S hG hval hW hsm
end
end Go.Mach
