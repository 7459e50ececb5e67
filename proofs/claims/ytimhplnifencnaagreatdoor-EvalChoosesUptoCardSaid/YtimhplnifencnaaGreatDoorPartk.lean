/-
  Proved here: the law renlaw12.EvalChooses returns true for every input of the stated bulk and leaves its arguments as they were; no further condition.
  By an AI agent; no person has read it.
-/
import Derived.Test.YtimhplnifencnaaGreatDoorPartj
import Derived.Lib.ItoaLen
set_option linter.all false
set_option linter.deprecated false

set_option maxRecDepth 100000
namespace Go.Mach
open Res
instance (n) : Safe (qm n) := ⟨trivial⟩
instance (n) : Safe (tf n) := by unfold tf; split <;> exact ⟨trivial⟩
instance (n c) : Safe (ixbRun n c) := ⟨trivial⟩
theorem eU {a} (hl : List.length a ≤ 2 ^ 40) : (R.bF a).sat (fun r => r.length = a.length) := by
  unfold R.bF
  refine aR fun h => ?_
  have hn : List.length (α := (Ty.int IntKind.u8).den) (jX a) = a.length := by simp [jX]
  refine bC (q_for (Q := fun r => r.length = a.length) (fun i => i.2) a.length (by omega) (fun x => x.1.length = x.2.toNat) (by simp) (by simp) (by simp) fun i h0 h1 hI => ?_) fun x hx => ?_ <;> repeat' (first | with_reducible (first | refine aF ?_ | refine aR fun _ => ?_ | refine iR ?_ | refine pk (fun _ => ?_) fun _ => ?_ | refine o5 (fun _ => ?_) fun _ => ?_ | refine jv (fun _ => ?_) fun _ => ?_ | refine aN rfl ?_ | refine aD rfl ?_ | refine fS (fun _ => ?_) fun _ => ?_ | refine tZ ?_ | refine tK ?_ | refine pS ?_ | refine q_e ?_ | refine q_p fun _ _ => ?_ | refine q_b fun _ => ?_ | refine gm ?_ ?_ fun _ _ _ => ?_ | refine jL ?_ ?_ fun _ _ _ => ?_ | refine lL ?_ | refine bC (eU ?_) fun _ _ => ?_ | refine nO ?_ ?_ | refine qv ?_ ?_ | refine tB ?_ ?_ | refine n_d ?_ ?_ | refine pM (fun _ => ?_) fun _ => ?_ | exact safe | refine aO ?_) | exact trivial | dsimp only [Nx, Dn] | with_reducible (first | rfl | refine And.intro ?_ ?_ | intro _ | contradiction) | omega | refine bf (by decide) ?_ | (simp (disch := omega) only [wrap64, iD, iI, List.length_append, List.length_cons, List.length_nil, List.length_take, List.length_drop, List.length_set, List.length_replicate, List.length_reverse] <;> omega) | (simp (disch := omega) only [wrap64, iD, iI, List.length_append, List.length_cons, List.length_nil, List.length_take, List.length_drop, List.length_set, List.length_replicate, List.length_reverse] at * <;> omega) | exact Int.tmod_nonneg _ (by omega) | (simp_all [i6, jq, jM, jm] <;> omega))
instance yi {a_0} : Safe (R.fi a_0) := by unfold R.fi; repeat' (first | with_reducible (first | apply Safe.g' | apply Safe.br' | apply Safe.bd' | apply Safe.sm' | intro _ | infer_instance))
instance yh {a} : l0 (R.fb a) (fun r => r = true → (a.2.length : Int) ≤ 8) := by
  unfold R.fb
  refine ⟨aR fun h => ?_⟩
  simp only [Sg.i, oks, Sh.ok, Ty.ok, List.map, Par.v, Bool.and_eq_true] at h
  repeat' (first | with_reducible (first | refine aF ?_ | refine aR fun _ => ?_ | refine iR ?_ | refine pk (fun _ => ?_) fun _ => ?_ | refine o5 (fun _ => ?_) fun _ => ?_ | refine jv (fun _ => ?_) fun _ => ?_ | refine aN rfl ?_ | refine aD rfl ?_ | refine fS (fun _ => ?_) fun _ => ?_ | refine tZ ?_ | refine tK ?_ | refine pS ?_ | refine q_e ?_ | refine q_p fun _ _ => ?_ | refine q_b fun _ => ?_ | refine gm ?_ ?_ fun _ _ _ => ?_ | refine jL ?_ ?_ fun _ _ _ => ?_ | refine lL ?_ | refine bC (eU ?_) fun _ _ => ?_ | refine nO ?_ ?_ | refine qv ?_ ?_ | refine tB ?_ ?_ | refine n_d ?_ ?_ | refine pM (fun _ => ?_) fun _ => ?_ | exact safe | refine aO ?_) | exact trivial | dsimp only [Nx, Dn] | with_reducible (first | rfl | refine And.intro ?_ ?_ | intro _ | contradiction) | omega | refine bf (by decide) ?_ | (simp (disch := omega) only [wrap64, iD, iI, List.length_append, List.length_cons, List.length_nil, List.length_take, List.length_drop, List.length_set, List.length_replicate, List.length_reverse] <;> omega) | (simp (disch := omega) only [wrap64, iD, iI, List.length_append, List.length_cons, List.length_nil, List.length_take, List.length_drop, List.length_set, List.length_replicate, List.length_reverse] at * <;> omega) | exact Int.tmod_nonneg _ (by omega) | (simp_all [i6, jq, jM, jm] <;> omega))
instance yK {a} : l0 (R.ea a) (fun r => r = true → (a.2.2.1.2.length : Int) = 0 ∧ (a.2.2.2.1.length : Int) = 0) := by
  unfold R.ea
  refine ⟨?_⟩
  repeat' (first | with_reducible (first | refine aF ?_ | refine aR fun _ => ?_ | refine iR ?_ | refine pk (fun _ => ?_) fun _ => ?_ | refine o5 (fun _ => ?_) fun _ => ?_ | refine jv (fun _ => ?_) fun _ => ?_ | refine aN rfl ?_ | refine aD rfl ?_ | refine fS (fun _ => ?_) fun _ => ?_ | refine tZ ?_ | refine tK ?_ | refine pS ?_ | refine q_e ?_ | refine q_p fun _ _ => ?_ | refine q_b fun _ => ?_ | refine gm ?_ ?_ fun _ _ _ => ?_ | refine jL ?_ ?_ fun _ _ _ => ?_ | refine lL ?_ | refine bC (eU ?_) fun _ _ => ?_ | refine nO ?_ ?_ | refine qv ?_ ?_ | refine tB ?_ ?_ | refine n_d ?_ ?_ | refine pM (fun _ => ?_) fun _ => ?_ | exact safe | refine aO ?_) | exact trivial | dsimp only [Nx, Dn] | with_reducible (first | rfl | refine And.intro ?_ ?_ | intro _ | contradiction) | omega | refine bf (by decide) ?_ | (simp (disch := omega) only [wrap64, iD, iI, List.length_append, List.length_cons, List.length_nil, List.length_take, List.length_drop, List.length_set, List.length_replicate, List.length_reverse] <;> omega) | (simp (disch := omega) only [wrap64, iD, iI, List.length_append, List.length_cons, List.length_nil, List.length_take, List.length_drop, List.length_set, List.length_replicate, List.length_reverse] at * <;> omega) | exact Int.tmod_nonneg _ (by omega) | (simp_all [i6, jq, jM, jm] <;> omega))
instance yf {a} : l0 (R.eK a) (fun r => r = true → (a.2.2.1.2.length : Int) ≤ 8 ∧ (a.2.2.2.1.length : Int) ≤ 4096) := by
  unfold R.eK
  refine ⟨?_⟩
  repeat' (first | with_reducible (first | refine aF ?_ | refine aR fun _ => ?_ | refine iR ?_ | refine pk (fun _ => ?_) fun _ => ?_ | refine o5 (fun _ => ?_) fun _ => ?_ | refine jv (fun _ => ?_) fun _ => ?_ | refine aN rfl ?_ | refine aD rfl ?_ | refine fS (fun _ => ?_) fun _ => ?_ | refine tZ ?_ | refine tK ?_ | refine pS ?_ | refine q_e ?_ | refine q_p fun _ _ => ?_ | refine q_b fun _ => ?_ | refine gm ?_ ?_ fun _ _ _ => ?_ | refine jL ?_ ?_ fun _ _ _ => ?_ | refine lL ?_ | refine bC (eU ?_) fun _ _ => ?_ | refine nO ?_ ?_ | refine qv ?_ ?_ | refine tB ?_ ?_ | refine n_d ?_ ?_ | refine pM (fun _ => ?_) fun _ => ?_ | exact safe | refine aO ?_) | exact trivial | dsimp only [Nx, Dn] | with_reducible (first | rfl | refine And.intro ?_ ?_ | intro _ | contradiction) | omega | refine bf (by decide) ?_ | (simp (disch := omega) only [wrap64, iD, iI, List.length_append, List.length_cons, List.length_nil, List.length_take, List.length_drop, List.length_set, List.length_replicate, List.length_reverse] <;> omega) | (simp (disch := omega) only [wrap64, iD, iI, List.length_append, List.length_cons, List.length_nil, List.length_take, List.length_drop, List.length_set, List.length_replicate, List.length_reverse] at * <;> omega) | exact Int.tmod_nonneg _ (by omega) | (simp_all [i6, jq, jM, jm] <;> omega))
instance xy {a} : l0 (R.bw a) (fun r => (r.2.2.1.2.length : Int) ≤ 8 ∧ (r.2.2.2.1.length : Int) ≤ 4096) := by
  unfold R.bw
  refine ⟨aR fun _ => q_p fun b hb => iR (fS (fun h => aF (hb h)) fun _ => aF (by simp))⟩
instance sf_num_as {a} : l0 (R.fJ a) (fun r : Int × Int => (r.1 = 0 → -9007199254740991 ≤ r.2 ∧ r.2 ≤ 9007199254740991) ∧ (r.1 ≠ 0 → 1 ≤ r.1 ∧ r.1 ≤ 4 ∧ r.2 = 0)) := ⟨by
  unfold R.fJ R.fi R.fT
  refine aR fun _ => aO (aR fun _ => jv (fun _ => o5 (fun _ => ?_) fun _ => ?_) fun _ => bC (R := fun x => x = true → 1 ≤ a.1 ∧ a.1 ≤ 4) (by repeat' (first | with_reducible (first | refine aF ?_ | refine aR fun _ => ?_ | refine iR ?_ | refine pk (fun _ => ?_) fun _ => ?_ | refine o5 (fun _ => ?_) fun _ => ?_ | refine jv (fun _ => ?_) fun _ => ?_ | refine aN rfl ?_ | refine aD rfl ?_ | refine fS (fun _ => ?_) fun _ => ?_ | refine tZ ?_ | refine tK ?_ | refine pS ?_ | refine q_e ?_ | refine q_p fun _ _ => ?_ | refine q_b fun _ => ?_ | refine gm ?_ ?_ fun _ _ _ => ?_ | refine jL ?_ ?_ fun _ _ _ => ?_ | refine lL ?_ | refine bC (eU ?_) fun _ _ => ?_ | refine nO ?_ ?_ | refine qv ?_ ?_ | refine tB ?_ ?_ | refine n_d ?_ ?_ | refine pM (fun _ => ?_) fun _ => ?_ | exact safe | refine aO ?_) | exact trivial | dsimp only [Nx, Dn] | with_reducible (first | rfl | refine And.intro ?_ ?_ | intro _ | contradiction) | omega | refine bf (by decide) ?_ | (simp (disch := omega) only [wrap64, iD, iI, List.length_append, List.length_cons, List.length_nil, List.length_take, List.length_drop, List.length_set, List.length_replicate, List.length_reverse] <;> omega) | (simp (disch := omega) only [wrap64, iD, iI, List.length_append, List.length_cons, List.length_nil, List.length_take, List.length_drop, List.length_set, List.length_replicate, List.length_reverse] at * <;> omega) | exact Int.tmod_nonneg _ (by omega) | (simp_all [i6, jq, jM, jm] <;> omega))) fun _ _ => ?_)
  · refine aF (iR (o5 (fun _ => aF ?_) fun _ => aO (aR fun _ => aF (aR fun _ => aF ?_)))) <;> constructor <;> intro _ <;> simp_all
  · refine aF (iR (aD rfl (aO (aR fun _ => aF (aR fun _ => aF ?_))))); simp
  · refine fS (fun hx => aF (iR (jv (fun _ => aF ?_) fun _ => aO (aR fun _ => aF (aR fun _ => aF ?_))))) fun _ => aF (iR (aD rfl (aO (aR fun _ => aF (aR fun _ => aF ?_))))) <;> simp_all⟩
instance yE {a} : w4 (R.ep a) (a.1 == 2) := ⟨aR fun _ => aF rfl⟩
instance yb {a_0} : Safe (R.gK a_0) := by unfold R.gK; repeat' (first | with_reducible (first | apply Safe.g' | apply Safe.br' | apply Safe.bd' | apply Safe.sm' | intro _ | infer_instance))
instance yN {a_0 b_1} : Safe (R.gQ a_0 b_1) := by unfold R.gQ; repeat' (first | with_reducible (first | apply Safe.g' | apply Safe.br' | apply Safe.bd' | apply Safe.sm' | intro _ | infer_instance))
instance yZ {v_0} : Safe (R.aw v_0) := by unfold R.aw; repeat' (first | with_reducible (first | apply Safe.g' | apply Safe.br' | apply Safe.bd' | apply Safe.sm' | intro _ | infer_instance))
instance yd {a} : l0 (R.gv a) (fun r => r.length ≤ 2 ^ 40) := by
  unfold R.gv
  refine ⟨aR fun _ => q_p fun (x : Int × Int) hx => aR fun _ => jv (fun _ => aF (by simp)) fun _ => jv (fun _ => aF (by simp)) fun _ => jv (fun _ => aF (by simp)) fun _ => aT (a := Lib.itoa x.2) rfl (aR fun _ => aF ?_)⟩
  have h : -9223372036854775808 ≤ x.2 ∧ x.2 ≤ 9223372036854775807 := by
    have h3 := hx
    by_cases h0 : x.1 = 0
    · have := h3.1 h0; omega
    · have := h3.2 h0; omega
  exact Nat.le_trans (Lib.itoa_length_le x.2 h.1 h.2) (by decide)
instance yc {a} : l0 (R.gJ a) (fun r => r.length ≤ a.length) := by
  unfold R.gJ
  refine ⟨aR fun h => ?_⟩
  simp only [Sg.i, oks, Sh.ok, Ty.ok, List.map, Par.v, Bool.and_eq_true] at h
  have := sU h
  refine bC (oM (fun m => m.length) (by omega) (fun m => m.length ≤ a.length) (Nat.le_refl _) fun m hm => ?_) fun x hx => hx
  repeat' (first | with_reducible (first | refine aF ?_ | refine aR fun _ => ?_ | refine iR ?_ | refine pk (fun _ => ?_) fun _ => ?_ | refine o5 (fun _ => ?_) fun _ => ?_ | refine jv (fun _ => ?_) fun _ => ?_ | refine aN rfl ?_ | refine aD rfl ?_ | refine fS (fun _ => ?_) fun _ => ?_ | refine tZ ?_ | refine tK ?_ | refine pS ?_ | refine q_e ?_ | refine q_p fun _ _ => ?_ | refine q_b fun _ => ?_ | refine gm ?_ ?_ fun _ _ _ => ?_ | refine jL ?_ ?_ fun _ _ _ => ?_ | refine lL ?_ | refine bC (eU ?_) fun _ _ => ?_ | refine nO ?_ ?_ | refine qv ?_ ?_ | refine tB ?_ ?_ | refine n_d ?_ ?_ | refine pM (fun _ => ?_) fun _ => ?_ | exact safe | refine aO ?_) | exact trivial | dsimp only [Nx, Dn] | with_reducible (first | rfl | refine And.intro ?_ ?_ | intro _ | contradiction) | omega | refine bf (by decide) ?_ | (simp (disch := omega) only [wrap64, iD, iI, List.length_append, List.length_cons, List.length_nil, List.length_take, List.length_drop, List.length_set, List.length_replicate, List.length_reverse] <;> omega) | (simp (disch := omega) only [wrap64, iD, iI, List.length_append, List.length_cons, List.length_nil, List.length_take, List.length_drop, List.length_set, List.length_replicate, List.length_reverse] at * <;> omega) | exact Int.tmod_nonneg _ (by omega) | (simp_all [i6, jq, jM, jm] <;> omega))
instance yj {a_0} : Safe (R.iw a_0) := by unfold R.iw; repeat' (first | with_reducible (first | apply Safe.g' | apply Safe.br' | apply Safe.bd' | apply Safe.sm' | intro _ | infer_instance))
theorem pX {a : List Int} : (R.bZ a).sat (fun r => List.length r.2 = a.length) := by
  unfold R.bZ
  refine aR fun h => ?_
  simp only [Sg.i, oks, Sh.ok, Ty.ok, List.map, Par.v, Bool.and_eq_true] at h
  have := sU h
  rw [wrap64 (by omega)]
  refine bC (oM (Q := fun r => r.length = a.length) (fun i => (i.2.1 - i.1 + 1).toNat) (by simp; omega) (fun i => 0 ≤ i.1 ∧ i.1 ≤ i.2.1 + 1 ∧ i.2.1 < a.length ∧ i.2.2.length = a.length) (by simp <;> omega) fun i ⟨i1, i2, i3, i4⟩ => ?_) fun x hx => ?_ <;> repeat' (first | with_reducible (first | refine aF ?_ | refine aR fun _ => ?_ | refine iR ?_ | refine pk (fun _ => ?_) fun _ => ?_ | refine o5 (fun _ => ?_) fun _ => ?_ | refine jv (fun _ => ?_) fun _ => ?_ | refine aN rfl ?_ | refine aD rfl ?_ | refine fS (fun _ => ?_) fun _ => ?_ | refine tZ ?_ | refine tK ?_ | refine pS ?_ | refine q_e ?_ | refine q_p fun _ _ => ?_ | refine q_b fun _ => ?_ | refine gm ?_ ?_ fun _ _ _ => ?_ | refine jL ?_ ?_ fun _ _ _ => ?_ | refine lL ?_ | refine bC (eU ?_) fun _ _ => ?_ | refine nO ?_ ?_ | refine qv ?_ ?_ | refine tB ?_ ?_ | refine n_d ?_ ?_ | refine pM (fun _ => ?_) fun _ => ?_ | exact safe | refine aO ?_) | exact trivial | dsimp only [Nx, Dn] | with_reducible (first | rfl | refine And.intro ?_ ?_ | intro _ | contradiction) | omega | refine bf (by decide) ?_ | (simp (disch := omega) only [wrap64, iD, iI, List.length_append, List.length_cons, List.length_nil, List.length_take, List.length_drop, List.length_set, List.length_replicate, List.length_reverse] <;> omega) | (simp (disch := omega) only [wrap64, iD, iI, List.length_append, List.length_cons, List.length_nil, List.length_take, List.length_drop, List.length_set, List.length_replicate, List.length_reverse] at * <;> omega) | exact Int.tmod_nonneg _ (by omega) | (simp_all [i6, jq, jM, jm] <;> omega))
theorem tW (l : List Int) : (mM l).length = l.length := by simp [mM]
theorem or_zero {x : Int} (h0 : 0 ≤ x) (h1 : x < 4294967296) : jC .or .u64 (sO .u64 0 32) (IntKind.wrap .u64 x) = x := by
  have e1 : sO .u64 0 32 = 0 := by simp [sO, IntKind.wrap, IntKind.signed, IntKind.bits]
  have e2 : IntKind.wrap .u64 x = x := by simp [IntKind.wrap, IntKind.signed, IntKind.bits]; omega
  rw [e1, e2]
  unfold jC
  have e3 : BitVec.ofInt IntKind.u64.bits 0 = 0#64 := rfl
  simp only [e3]
  show IntKind.wrap .u64 ((0#64 ||| BitVec.ofInt 64 x).toNat : Int) = x
  rw [BitVec.zero_or, BitVec.toNat_ofInt]
  simp [IntKind.wrap, IntKind.signed, IntKind.bits]
  omega
theorem tenth {x : Int} (h0 : 0 ≤ x) (h1 : x < 4294967296) : IntKind.wrap .u32 (IntKind.wrap .u64 (Int.tdiv x 10)) = x / 10 := by
  rw [Int.tdiv_eq_ediv_of_nonneg h0]
  simp [IntKind.wrap, IntKind.signed, IntKind.bits]
  omega
def qM (m : List Int) : Prop := ∀ e : Int, m[m.length - 1]? = some e → e ≠ 0
theorem oh {m : List Int} (h : (m.length : Int) ≤ 0) : qM m := fun e he => by
  have : m = [] := List.length_eq_zero_iff.1 (by omega)
  subst this; cases he
theorem ug {a : List Int} : (R.gJ a).sat (fun r : List Int => r.length ≤ a.length ∧ r = a.take r.length ∧ qM r) := by
  unfold R.gJ
  refine aR fun h => ?_
  simp only [Sg.i, oks, Sh.ok, Ty.ok, List.map, Par.v, Bool.and_eq_true] at h
  have := sU h
  refine bC (oM (Q := fun m : List Int => m.length ≤ a.length ∧ m = a.take m.length ∧ qM m) (fun m => m.length) (by omega) (fun m => m.length ≤ a.length ∧ m = a.take m.length) ⟨Nat.le_refl _, by simp⟩ fun m ⟨hm, ht⟩ => ?_) fun x hx => aF hx
  refine aO (pk (fun h0 => ?_) fun h0 => aF (aD rfl (aF ⟨hm, ht, oh h0⟩)))
  have hw : IntKind.wrap .i64 ((m.length : Int) - 1) = (m.length : Int) - 1 := wrap64 (by omega)
  have hn : ((m.length : Int) - 1).toNat = m.length - 1 := by omega
  rw [hw]
  refine lL (nO (by omega) (qv (by omega) (jL (by omega) (by omega) fun (e : Int) he _ => aF (jv (fun h => ?_) fun h => aF ⟨hm, ht, ?_⟩))))
  · refine lL (nO (by omega) (nO (by omega) (aF ⟨?_, ?_, ?_⟩)))
    · simp only [List.length_take, List.length_drop]; omega
    · simp only [List.length_take, List.length_drop]; omega
    · rw [List.drop_zero, hn, List.length_take, Nat.min_eq_left (by omega)]
      have : List.take (m.length - 1) m = List.take (m.length - 1) (List.take m.length a) := by rw [← ht]
      rw [this, List.take_take, Nat.min_eq_left (by omega)]
  · intro e' he'
    rw [idx0, hn, he'] at he
    cases he
    exact h
theorem wv {a} : (R.fb a).sat (fun r => r = true → (a.2.length : Int) ≤ 8 ∧ qM a.2) := by
  unfold R.fb
  refine aR fun h => o5 (fun h8 => ?_) fun _ => aF (by simp)
  have hw (h : 0 < (a.2.length : Int)) : IntKind.wrap .i64 ((a.2.length : Int) - 1) = (a.2.length : Int) - 1 := wrap64 (by omega)
  have hn (h : 0 < (a.2.length : Int)) : ((a.2.length : Int) - 1).toNat = a.2.length - 1 := by omega
  have hk : (Res.br (ilt 0 (a.2.length : Int)) (Res.ei .w a.2 (IntKind.wrap .i64 ((a.2.length : Int) - 1)) fun e2 => Res.ok ((!(e2 == 0)))) (Res.ok (false))).sat (fun r => r = true → (a.2.length : Int) ≤ 8 ∧ qM a.2) := by
    refine pk (fun h0 => ?_) fun _ => aF (by simp)
    rw [hw h0]
    refine gm (by omega) (by omega) fun (e : Int) he _ => aF fun hr => ⟨h8, fun e' he' => ?_⟩
    rw [hn h0, he'] at he
    cases he
    simpa using hr
  exact jv (fun h0 => iR (fS (fun _ => hk) fun _ => aF fun _ => ⟨h8, oh (by omega)⟩)) fun _ => hk
theorem vp {a} : (R.iZ a).sat (fun r : List Int => r.length ≤ 8 ∧ qM r) := by
  unfold R.iZ
  refine aR fun _ => bC wv fun b hb => iR (fS (fun h => aO (aF (aR fun _ => aF ?_))) fun _ => aF ⟨by simp, oh (by simp)⟩)
  have := hb h
  exact ⟨by show List.length a.2 ≤ 8; omega, this.2⟩
def mz (m : List Int) : Nat := match m[m.length - 1]? with
  | some e => m.length * 4294967296 + min e.toNat 4294967295
  | none => 0
theorem mz_lt {r m : List Int} (h : r.length < m.length) : mz r < mz m := by
  unfold mz
  have hm : ∃ e, m[m.length - 1]? = some e := ⟨_, List.getElem?_eq_getElem (by omega)⟩
  obtain ⟨e, he⟩ := hm
  rw [he]
  cases r[r.length - 1]? with
  | none => simp only []; omega
  | some x => simp only []; omega
theorem mz_le {m : List Int} (h : m.length ≤ 8) : mz m ≤ 9 * 4294967296 := by
  unfold mz
  cases m[m.length - 1]? with
  | none => simp only []; omega
  | some x => simp only []; omega
theorem wI {e : Int} (h : (Ty.int IntKind.u32).ok e = true) : 0 ≤ e ∧ e < 4294967296 := by
  simp [Ty.ok, cZ, IntKind.wrap, IntKind.signed, IntKind.bits] at h
  omega
instance yg {a} : l0 (R.gp a) (fun r => r.length ≤ 2 ^ 40) := by
  unfold R.gp
  refine ⟨aR fun _ => bC vp fun m ⟨hm, ht⟩ => aR fun _ => jv (fun _ => aF (by simp)) fun hne => bC (R := fun l : List Int => l.length ≤ 2 ^ 39) ?_ fun l hl => q_b fun _ => fS (fun _ => ?_) fun _ => ?_⟩
  · refine oM (fun s => mz s.1) (Nat.le_trans (mz_le hm) (by decide)) (fun s => s.1.length ≤ 8 ∧ qM s.1 ∧ s.2.length + mz s.1 ≤ 9 * 4294967296) ⟨hm, ht, by have := mz_le hm; simp; omega⟩ fun ⟨m, l⟩ ⟨h1, h2, h3⟩ => ?_
    simp only at h1 h2 h3 ⊢
    refine pk (fun hp => ?_) fun _ => aF (by show l.length ≤ 2 ^ 39; omega)
    rw [wrap64 (by omega)]
    obtain ⟨top, htop⟩ : ∃ e, m[m.length - 1]? = some e := ⟨_, List.getElem?_eq_getElem (by omega)⟩
    refine bC (R := fun r : Int × List Int => r.2.length = m.length ∧ r.2[m.length - 1]? = some (top / 10) ∧ 0 ≤ top ∧ top < 4294967296) ?_ fun ⟨r, m'⟩ ⟨g1, g2, g3, g4⟩ => ?_
    · refine oM (fun s => (s.2.1 + 1).toNat) (by simp; omega) (fun s => -1 ≤ s.2.1 ∧ s.2.1 < m.length ∧ s.2.2.length = m.length ∧ (s.2.1 = m.length - 1 → s.1 = 0 ∧ s.2.2 = m) ∧ (s.2.1 < m.length - 1 → s.2.2[m.length - 1]? = some (top / 10) ∧ 0 ≤ top ∧ top < 4294967296)) ⟨by simp only; omega, by simp only; omega, rfl, fun _ => ⟨rfl, rfl⟩, fun h => by simp only at h; omega⟩ fun ⟨r, i, q⟩ ⟨i1, i2, i3, i4, i5⟩ => ?_
      simp only at i1 i2 i3 i4 i5 ⊢
      refine o5 (fun i0 => ?_) fun i0 => aF ?_
      · refine nO (by omega) (lL (nO (by omega) (qv (by omega) (jL (by omega) (by omega) fun (e : Int) he hok => bf (by decide) (lL (nO (by omega) (qv (by omega) (jL (by omega) (by omega) fun _ _ _ => bf (by decide) (aF ?_)))))))))
        have hw : IntKind.wrap .i64 (i - 1) = i - 1 := wrap64 (by omega)
        have hix : (0 + (i.toNat : Int)).toNat = i.toNat := by omega
        rw [hix] at he
        have hr := wI hok
        refine ⟨?_, ?_, ?_, ?_, ?_, ?_⟩
        · simp only [hw]; omega
        · simp only [hw]; omega
        · simp only [hw]; omega
        · simp only [List.length_set]; exact i3
        · simp only [hw]; omega
        · intro hlt
          simp only [hw] at hlt
          by_cases hi : i = m.length - 1
          · obtain ⟨e1, e2⟩ := i4 hi
            subst e1 e2
            have hin : i.toNat = q.length - 1 := by omega
            rw [hin] at he
            rw [he] at htop
            cases htop
            refine ⟨?_, hr⟩
            simp only [or_zero hr.1 hr.2, tenth hr.1 hr.2]
            rw [show 0 + i.toNat = q.length - 1 by omega, List.getElem?_set_self (by omega)]
          · obtain ⟨e1, e2⟩ := i5 (by omega)
            refine ⟨?_, e2⟩
            simp only
            rw [List.getElem?_set_ne (by omega)]
            exact e1
      · have := i5 (by omega)
        exact ⟨i3, this.1, this.2.1, this.2.2⟩
    · simp only at g1 g2 ⊢
      refine n_d (by simp only [List.length_cons, List.length_nil]; omega) (bC ug fun s ⟨s1, s2, s3⟩ => aR fun _ => aF ?_)
      have hlt : mz s < mz m := by
        by_cases hs : s.length = m.length
        · have e : s = m' := by rw [s2, hs, ← g1, List.take_length]
          subst e
          unfold mz
          rw [hs, g2, htop]
          have := h2 top htop
          simp only []
          omega
        · exact mz_lt (by omega)
      exact ⟨hlt, by show s.length ≤ 8; omega, s3, by simp only [List.length_append, List.length_cons, List.length_nil]; omega⟩
  · refine n_d (by simp only [List.length_cons, List.length_nil]; omega) (bC pX fun r hr => aR fun _ => aF ?_)
    rw [tW, hr]; simp; omega
  · refine bC pX fun r hr => aR fun _ => aF ?_
    rw [tW, hr]; omega
end Go.Mach
namespace Go.Mach
namespace Res
variable {α β : Type} {Q : β → Prop}
theorem aE {m : Res α} {k : α → Res β} (h : m.strip.isSome = true) (hk : (k (m.strip.get h)).sat Q) : (m.bind k).sat Q := aT (cG (Option.some_get h).symm rfl) hk
theorem aZ {t : Ty} {xs : List t.den} {i : Int} {k : t.den → Res β} (h0 : decide (0 ≤ i) = true) (h : (xs[i.toNat]?).isSome = true) (hk : (k ((xs[i.toNat]?).get h)).sat Q) : (idx t xs i k).sat Q := by
  refine jL (of_decide_eq_true h0) (by simpa using h) fun x hx _ => ?_
  simp only [hx, Option.get_some] at hk
  exact hk
theorem iy {γ δ : Type} {x : γ ⊕ δ} {f : γ → Res β} {g : δ → Res β} (h : x.getLeft?.isSome = true) (hk : (f (x.getLeft?.get h)).sat Q) : (sum x f g).sat Q := by
  cases x
  · exact hk
  · cases h
theorem pe {γ δ : Type} {x : γ ⊕ δ} {f : γ → Res β} {g : δ → Res β} (h : x.getRight?.isSome = true) (hk : (g (x.getRight?.get h)).sat Q) : (sum x f g).sat Q := by
  cases x
  · cases h
  · exact hk
theorem aA {b : Bool} {k : Res β} (h : k.sat Q) : (given b k).sat Q := fun _ => h
theorem re {b e : Bool} {x y : Res β} (h : e = false) (hb : b = e) (hy : y.sat Q) : (br b x y).sat Q := aD (hb.trans h) hy
theorem w_brt {b e : Bool} {x y : Res β} (h : e = true) (hb : b = e) (hx : x.sat Q) : (br b x y).sat Q := aN (hb.trans h) hx
def vm (f : α → Res (Step α β)) (n : Nat) (Q : β → Prop) : Step α β → Prop
  | .next a => (loop f n a).sat Q
  | .done b => Q b
theorem jW {f : α → Res (Step α β)} {n : Nat} {a : α} (h : (loop f n a).sat Q) : vm f n Q (.next a) := h
theorem gf {f : α → Res (Step α β)} {n : Nat} {b : β} (h : Q b) : vm f n Q (.done b) := h
theorem gL {f : α → Res (Step α β)} {a : α} {n : Nat} (h : (f a).sat (vm f n Q)) : (loop f (n + 1) a).sat Q := by
  unfold loop
  refine bC h fun s hs => ?_
  cases s with
  | next a' => exact hs
  | done b => exact hs
theorem eQ {f : α → Res (Step α β)} {a : α} {k : Nat} (hk : fuel = k + 40) (h : (f a).sat (vm f (k + 39) Q)) : (loop f fuel a).sat Q := by
  rw [hk]
  exact gL h
end Res
end Go.Mach
set_option maxRecDepth 100000
namespace Go.Mach
open Res
variable {n : Nat} {β : Type} {Q : β → Prop}
theorem cB {x0 x1 x2} {k : _ → Res β} (h : (R.eval_run_list (bc n) x0 x1 x2).sat fun a => (k a).sat Q) : (((bc (n + 1)).eval_run_list x0 x1 x2).bind k).sat Q := aO h
theorem bM {x0 x1 x2 x3} {k : _ → Res β} (h : (R.eval_run_statement (bc n) x0 x1 x2 x3).sat fun a => (k a).sat Q) : (((bc (n + 1)).eval_run_statement x0 x1 x2 x3).bind k).sat Q := aO h
theorem cQ {x0 x1 x2 x3} {k : _ → Res β} (h : (R.eval_run_act (bc n) x0 x1 x2 x3).sat fun a => (k a).sat Q) : (((bc (n + 1)).eval_run_act x0 x1 x2 x3).bind k).sat Q := aO h
theorem aG {x0 x1 x2} {k : _ → Res β} (h : (R.eval_run_expression (bc n) x0 x1 x2).sat fun a => (k a).sat Q) : (((bc (n + 1)).eval_run_expression x0 x1 x2).bind k).sat Q := aO h
theorem aY {x0 x1 x2} {k : _ → Res β} (h : (R.eval_run_value (bc n) x0 x1 x2).sat fun a => (k a).sat Q) : (((bc (n + 1)).eval_run_value x0 x1 x2).bind k).sat Q := aO h
theorem aP {x0 x1 x2 x3} {k : _ → Res β} (h : (R.eval_run_operation (bc n) x0 x1 x2 x3).sat fun a => (k a).sat Q) : (((bc (n + 1)).eval_run_operation x0 x1 x2 x3).bind k).sat Q := aO h
theorem cx {x0 x1 x2} {k : _ → Res β} (h : (R.eval_run_logic (bc n) x0 x1 x2).sat fun a => (k a).sat Q) : (((bc (n + 1)).eval_run_logic x0 x1 x2).bind k).sat Q := aO h
theorem bh {x0 x1 x2} {k : _ → Res β} (h : (R.eval_run_callee (bc n) x0 x1 x2).sat fun a => (k a).sat Q) : (((bc (n + 1)).eval_run_callee x0 x1 x2).bind k).sat Q := aO h
theorem bL {x0 x1 x2} {k : _ → Res β} (h : (R.eval_run_arguments (bc n) x0 x1 x2).sat fun a => (k a).sat Q) : (((bc (n + 1)).eval_run_arguments x0 x1 x2).bind k).sat Q := aO h
theorem cq {x0 x1 x2 x3} {k : _ → Res β} (h : (R.eval_run_call (bc n) x0 x1 x2 x3).sat fun a => (k a).sat Q) : (((bc (n + 1)).eval_run_call x0 x1 x2 x3).bind k).sat Q := aO h
theorem cj {x0 x1 x2 x3} {k : _ → Res β} (h : (R.eval_run_does (bc n) x0 x1 x2 x3).sat fun a => (k a).sat Q) : (((bc (n + 1)).eval_run_does x0 x1 x2 x3).bind k).sat Q := aO h
theorem cm {x0 x1 x2} {k : _ → Res β} (h : (R.eval_run_host (bc n) x0 x1 x2).sat fun a => (k a).sat Q) : (((bc (n + 1)).eval_run_host x0 x1 x2).bind k).sat Q := aO h
end Go.Mach
