/-
  Proved here: the law renlaw12.EvalNames returns true for every input of the stated bulk and leaves its arguments as they were; no further condition.
  By an AI agent; no person has read it.
-/
import Derived.Test.YtimhplnifencnaaGreatDoorPartj
import Derived.Lib.ItoaLen
set_option linter.all false
set_option linter.deprecated false

set_option maxRecDepth 100000
namespace Go.Mach
open Res
instance (n) : Safe (ql n) := ⟨trivial⟩
instance (n) : Safe (te n) := by unfold te; split <;> exact ⟨trivial⟩
instance (n c) : Safe (ixbRun n c) := ⟨trivial⟩
theorem ev {a} (hl : List.length a ≤ 2 ^ 40) : (R.av a).sat (fun r => r.length = a.length) := by
  unfold R.av
  refine aQ fun h => ?_
  have hn : List.length (α := (Ty.int IntKind.u8).den) (i7 a) = a.length := by simp [i7]
  refine bD (q_for (Q := fun r => r.length = a.length) (fun i => i.2) a.length (by omega) (fun x => x.1.length = x.2.toNat) (by simp) (by simp) (by simp) fun i h0 h1 hI => ?_) fun x hx => ?_ <;> repeat' (first | with_reducible (first | refine aG ?_ | refine aQ fun _ => ?_ | refine ka ?_ | refine qx (fun _ => ?_) fun _ => ?_ | refine p9 (fun _ => ?_) fun _ => ?_ | refine jz (fun _ => ?_) fun _ => ?_ | refine bG rfl ?_ | refine aN rfl ?_ | refine fU (fun _ => ?_) fun _ => ?_ | refine vv ?_ | refine wk ?_ | refine rV ?_ | refine q_e ?_ | refine q_p fun _ _ => ?_ | refine q_b fun _ => ?_ | refine gr ?_ ?_ fun _ _ _ => ?_ | refine jX ?_ ?_ fun _ _ _ => ?_ | refine mD ?_ | refine bD (ev ?_) fun _ _ => ?_ | refine np ?_ ?_ | refine rz ?_ ?_ | refine we ?_ ?_ | refine n_d ?_ ?_ | refine rW (fun _ => ?_) fun _ => ?_ | exact safe | refine bA ?_) | exact trivial | dsimp only [Nx, Dn] | with_reducible (first | rfl | refine And.intro ?_ ?_ | intro _ | contradiction) | omega | refine dk (by decide) ?_ | (simp (disch := omega) only [wrap64, iu, jG, List.length_append, List.length_cons, List.length_nil, List.length_take, List.length_drop, List.length_set, List.length_replicate, List.length_reverse] <;> omega) | (simp (disch := omega) only [wrap64, iu, jG, List.length_append, List.length_cons, List.length_nil, List.length_take, List.length_drop, List.length_set, List.length_replicate, List.length_reverse] at * <;> omega) | exact Int.tmod_nonneg _ (by omega) | (simp_all [jZ, kc, jc, kQ] <;> omega))
instance yn {a} : ly (R.fI a) (fun r => r = true → (a.2.length : Int) ≤ 8) := by
  unfold R.fI
  refine ⟨aQ fun h => ?_⟩
  simp only [Sg.i, oks, Sh.ok, Ty.ok, List.map, Par.v, Bool.and_eq_true] at h
  repeat' (first | with_reducible (first | refine aG ?_ | refine aQ fun _ => ?_ | refine ka ?_ | refine qx (fun _ => ?_) fun _ => ?_ | refine p9 (fun _ => ?_) fun _ => ?_ | refine jz (fun _ => ?_) fun _ => ?_ | refine bG rfl ?_ | refine aN rfl ?_ | refine fU (fun _ => ?_) fun _ => ?_ | refine vv ?_ | refine wk ?_ | refine rV ?_ | refine q_e ?_ | refine q_p fun _ _ => ?_ | refine q_b fun _ => ?_ | refine gr ?_ ?_ fun _ _ _ => ?_ | refine jX ?_ ?_ fun _ _ _ => ?_ | refine mD ?_ | refine bD (ev ?_) fun _ _ => ?_ | refine np ?_ ?_ | refine rz ?_ ?_ | refine we ?_ ?_ | refine n_d ?_ ?_ | refine rW (fun _ => ?_) fun _ => ?_ | exact safe | refine bA ?_) | exact trivial | dsimp only [Nx, Dn] | with_reducible (first | rfl | refine And.intro ?_ ?_ | intro _ | contradiction) | omega | refine dk (by decide) ?_ | (simp (disch := omega) only [wrap64, iu, jG, List.length_append, List.length_cons, List.length_nil, List.length_take, List.length_drop, List.length_set, List.length_replicate, List.length_reverse] <;> omega) | (simp (disch := omega) only [wrap64, iu, jG, List.length_append, List.length_cons, List.length_nil, List.length_take, List.length_drop, List.length_set, List.length_replicate, List.length_reverse] at * <;> omega) | exact Int.tmod_nonneg _ (by omega) | (simp_all [jZ, kc, jc, kQ] <;> omega))
instance sf_num_as {a} : ly (R.eh a) (fun r : Int × Int => (r.1 = 0 → -9007199254740991 ≤ r.2 ∧ r.2 ≤ 9007199254740991) ∧ (r.1 ≠ 0 → 1 ≤ r.1 ∧ r.1 ≤ 4 ∧ r.2 = 0)) := ⟨by
  unfold R.eh R.fi R.fA
  refine aQ fun _ => bA (aQ fun _ => jz (fun _ => p9 (fun _ => ?_) fun _ => ?_) fun _ => bD (R := fun x => x = true → 1 ≤ a.1 ∧ a.1 ≤ 4) (by repeat' (first | with_reducible (first | refine aG ?_ | refine aQ fun _ => ?_ | refine ka ?_ | refine qx (fun _ => ?_) fun _ => ?_ | refine p9 (fun _ => ?_) fun _ => ?_ | refine jz (fun _ => ?_) fun _ => ?_ | refine bG rfl ?_ | refine aN rfl ?_ | refine fU (fun _ => ?_) fun _ => ?_ | refine vv ?_ | refine wk ?_ | refine rV ?_ | refine q_e ?_ | refine q_p fun _ _ => ?_ | refine q_b fun _ => ?_ | refine gr ?_ ?_ fun _ _ _ => ?_ | refine jX ?_ ?_ fun _ _ _ => ?_ | refine mD ?_ | refine bD (ev ?_) fun _ _ => ?_ | refine np ?_ ?_ | refine rz ?_ ?_ | refine we ?_ ?_ | refine n_d ?_ ?_ | refine rW (fun _ => ?_) fun _ => ?_ | exact safe | refine bA ?_) | exact trivial | dsimp only [Nx, Dn] | with_reducible (first | rfl | refine And.intro ?_ ?_ | intro _ | contradiction) | omega | refine dk (by decide) ?_ | (simp (disch := omega) only [wrap64, iu, jG, List.length_append, List.length_cons, List.length_nil, List.length_take, List.length_drop, List.length_set, List.length_replicate, List.length_reverse] <;> omega) | (simp (disch := omega) only [wrap64, iu, jG, List.length_append, List.length_cons, List.length_nil, List.length_take, List.length_drop, List.length_set, List.length_replicate, List.length_reverse] at * <;> omega) | exact Int.tmod_nonneg _ (by omega) | (simp_all [jZ, kc, jc, kQ] <;> omega))) fun _ _ => ?_)
  · refine aG (ka (p9 (fun _ => aG ?_) fun _ => bA (aQ fun _ => aG (aQ fun _ => aG ?_)))) <;> constructor <;> intro _ <;> simp_all
  · refine aG (ka (aN rfl (bA (aQ fun _ => aG (aQ fun _ => aG ?_))))); simp
  · refine fU (fun hx => aG (ka (jz (fun _ => aG ?_) fun _ => bA (aQ fun _ => aG (aQ fun _ => aG ?_))))) fun _ => aG (ka (aN rfl (bA (aQ fun _ => aG (aQ fun _ => aG ?_))))) <;> simp_all⟩
instance yk {a} : ly (R.gO a) (fun r => r.length ≤ 2 ^ 40) := by
  unfold R.gO
  refine ⟨aQ fun _ => q_p fun (x : Int × Int) hx => aQ fun _ => jz (fun _ => aG (by simp)) fun _ => jz (fun _ => aG (by simp)) fun _ => jz (fun _ => aG (by simp)) fun _ => ae (a := Lib.itoa x.2) rfl (aQ fun _ => aG ?_)⟩
  have h : -9223372036854775808 ≤ x.2 ∧ x.2 ≤ 9223372036854775807 := by
    have h3 := hx
    by_cases h0 : x.1 = 0
    · have := h3.1 h0; omega
    · have := h3.2 h0; omega
  exact Nat.le_trans (Lib.itoa_length_le x.2 h.1 h.2) (by decide)
instance yj {a} : ly (R.fk a) (fun r => r.length ≤ a.length) := by
  unfold R.fk
  refine ⟨aQ fun h => ?_⟩
  simp only [Sg.i, oks, Sh.ok, Ty.ok, List.map, Par.v, Bool.and_eq_true] at h
  have := sS h
  refine bD (nz (fun m => m.length) (by omega) (fun m => m.length ≤ a.length) (Nat.le_refl _) fun m hm => ?_) fun x hx => hx
  repeat' (first | with_reducible (first | refine aG ?_ | refine aQ fun _ => ?_ | refine ka ?_ | refine qx (fun _ => ?_) fun _ => ?_ | refine p9 (fun _ => ?_) fun _ => ?_ | refine jz (fun _ => ?_) fun _ => ?_ | refine bG rfl ?_ | refine aN rfl ?_ | refine fU (fun _ => ?_) fun _ => ?_ | refine vv ?_ | refine wk ?_ | refine rV ?_ | refine q_e ?_ | refine q_p fun _ _ => ?_ | refine q_b fun _ => ?_ | refine gr ?_ ?_ fun _ _ _ => ?_ | refine jX ?_ ?_ fun _ _ _ => ?_ | refine mD ?_ | refine bD (ev ?_) fun _ _ => ?_ | refine np ?_ ?_ | refine rz ?_ ?_ | refine we ?_ ?_ | refine n_d ?_ ?_ | refine rW (fun _ => ?_) fun _ => ?_ | exact safe | refine bA ?_) | exact trivial | dsimp only [Nx, Dn] | with_reducible (first | rfl | refine And.intro ?_ ?_ | intro _ | contradiction) | omega | refine dk (by decide) ?_ | (simp (disch := omega) only [wrap64, iu, jG, List.length_append, List.length_cons, List.length_nil, List.length_take, List.length_drop, List.length_set, List.length_replicate, List.length_reverse] <;> omega) | (simp (disch := omega) only [wrap64, iu, jG, List.length_append, List.length_cons, List.length_nil, List.length_take, List.length_drop, List.length_set, List.length_replicate, List.length_reverse] at * <;> omega) | exact Int.tmod_nonneg _ (by omega) | (simp_all [jZ, kc, jc, kQ] <;> omega))
instance ym {a_0} : Safe (R.iQ a_0) := by unfold R.iQ; repeat' (first | with_reducible (first | apply Safe.g' | apply Safe.br' | apply Safe.bd' | apply Safe.sm' | intro _ | infer_instance))
theorem o8 {a : List Int} : (R.bR a).sat (fun r => List.length r.2 = a.length) := by
  unfold R.bR
  refine aQ fun h => ?_
  simp only [Sg.i, oks, Sh.ok, Ty.ok, List.map, Par.v, Bool.and_eq_true] at h
  have := sS h
  rw [wrap64 (by omega)]
  refine bD (nz (Q := fun r => r.length = a.length) (fun i => (i.2.1 - i.1 + 1).toNat) (by simp; omega) (fun i => 0 ≤ i.1 ∧ i.1 ≤ i.2.1 + 1 ∧ i.2.1 < a.length ∧ i.2.2.length = a.length) (by simp <;> omega) fun i ⟨i1, i2, i3, i4⟩ => ?_) fun x hx => ?_ <;> repeat' (first | with_reducible (first | refine aG ?_ | refine aQ fun _ => ?_ | refine ka ?_ | refine qx (fun _ => ?_) fun _ => ?_ | refine p9 (fun _ => ?_) fun _ => ?_ | refine jz (fun _ => ?_) fun _ => ?_ | refine bG rfl ?_ | refine aN rfl ?_ | refine fU (fun _ => ?_) fun _ => ?_ | refine vv ?_ | refine wk ?_ | refine rV ?_ | refine q_e ?_ | refine q_p fun _ _ => ?_ | refine q_b fun _ => ?_ | refine gr ?_ ?_ fun _ _ _ => ?_ | refine jX ?_ ?_ fun _ _ _ => ?_ | refine mD ?_ | refine bD (ev ?_) fun _ _ => ?_ | refine np ?_ ?_ | refine rz ?_ ?_ | refine we ?_ ?_ | refine n_d ?_ ?_ | refine rW (fun _ => ?_) fun _ => ?_ | exact safe | refine bA ?_) | exact trivial | dsimp only [Nx, Dn] | with_reducible (first | rfl | refine And.intro ?_ ?_ | intro _ | contradiction) | omega | refine dk (by decide) ?_ | (simp (disch := omega) only [wrap64, iu, jG, List.length_append, List.length_cons, List.length_nil, List.length_take, List.length_drop, List.length_set, List.length_replicate, List.length_reverse] <;> omega) | (simp (disch := omega) only [wrap64, iu, jG, List.length_append, List.length_cons, List.length_nil, List.length_take, List.length_drop, List.length_set, List.length_replicate, List.length_reverse] at * <;> omega) | exact Int.tmod_nonneg _ (by omega) | (simp_all [jZ, kc, jc, kQ] <;> omega))
theorem s6 (l : List Int) : (mS l).length = l.length := by simp [mS]
theorem or_zero {x : Int} (h0 : 0 ≤ x) (h1 : x < 4294967296) : ib .or .u64 (sG .u64 0 32) (IntKind.wrap .u64 x) = x := by
  have e1 : sG .u64 0 32 = 0 := by simp [sG, IntKind.wrap, IntKind.signed, IntKind.bits]
  have e2 : IntKind.wrap .u64 x = x := by simp [IntKind.wrap, IntKind.signed, IntKind.bits]; omega
  rw [e1, e2]
  unfold ib
  have e3 : BitVec.ofInt IntKind.u64.bits 0 = 0#64 := rfl
  simp only [e3]
  show IntKind.wrap .u64 ((0#64 ||| BitVec.ofInt 64 x).toNat : Int) = x
  rw [BitVec.zero_or, BitVec.toNat_ofInt]
  simp [IntKind.wrap, IntKind.signed, IntKind.bits]
  omega
theorem tenth {x : Int} (h0 : 0 ≤ x) (h1 : x < 4294967296) : IntKind.wrap .u32 (IntKind.wrap .u64 (Int.tdiv x 10)) = x / 10 := by
  rw [Int.tdiv_eq_ediv_of_nonneg h0]
  simp [IntKind.wrap, IntKind.signed, IntKind.bits]
  omega
def qs (m : List Int) : Prop := ∀ e : Int, m[m.length - 1]? = some e → e ≠ 0
theorem oP {m : List Int} (h : (m.length : Int) ≤ 0) : qs m := fun e he => by
  have : m = [] := List.length_eq_zero_iff.1 (by omega)
  subst this; cases he
theorem u4 {a : List Int} : (R.fk a).sat (fun r : List Int => r.length ≤ a.length ∧ r = a.take r.length ∧ qs r) := by
  unfold R.fk
  refine aQ fun h => ?_
  simp only [Sg.i, oks, Sh.ok, Ty.ok, List.map, Par.v, Bool.and_eq_true] at h
  have := sS h
  refine bD (nz (Q := fun m : List Int => m.length ≤ a.length ∧ m = a.take m.length ∧ qs m) (fun m => m.length) (by omega) (fun m => m.length ≤ a.length ∧ m = a.take m.length) ⟨Nat.le_refl _, by simp⟩ fun m ⟨hm, ht⟩ => ?_) fun x hx => aG hx
  refine bA (qx (fun h0 => ?_) fun h0 => aG (aN rfl (aG ⟨hm, ht, oP h0⟩)))
  have hw : IntKind.wrap .i64 ((m.length : Int) - 1) = (m.length : Int) - 1 := wrap64 (by omega)
  have hn : ((m.length : Int) - 1).toNat = m.length - 1 := by omega
  rw [hw]
  refine mD (np (by omega) (rz (by omega) (jX (by omega) (by omega) fun (e : Int) he _ => aG (jz (fun h => ?_) fun h => aG ⟨hm, ht, ?_⟩))))
  · refine mD (np (by omega) (np (by omega) (aG ⟨?_, ?_, ?_⟩)))
    · simp only [List.length_take, List.length_drop]; omega
    · simp only [List.length_take, List.length_drop]; omega
    · rw [List.drop_zero, hn, List.length_take, Nat.min_eq_left (by omega)]
      have : List.take (m.length - 1) m = List.take (m.length - 1) (List.take m.length a) := by rw [← ht]
      rw [this, List.take_take, Nat.min_eq_left (by omega)]
  · intro e' he'
    rw [idx0, hn, he'] at he
    cases he
    exact h
theorem vo {a} : (R.fI a).sat (fun r => r = true → (a.2.length : Int) ≤ 8 ∧ qs a.2) := by
  unfold R.fI
  refine aQ fun h => p9 (fun h8 => ?_) fun _ => aG (by simp)
  have hw (h : 0 < (a.2.length : Int)) : IntKind.wrap .i64 ((a.2.length : Int) - 1) = (a.2.length : Int) - 1 := wrap64 (by omega)
  have hn (h : 0 < (a.2.length : Int)) : ((a.2.length : Int) - 1).toNat = a.2.length - 1 := by omega
  have hk : (Res.br (ilt 0 (a.2.length : Int)) (Res.eM .w a.2 (IntKind.wrap .i64 ((a.2.length : Int) - 1)) fun e2 => Res.ok ((!(e2 == 0)))) (Res.ok (false))).sat (fun r => r = true → (a.2.length : Int) ≤ 8 ∧ qs a.2) := by
    refine qx (fun h0 => ?_) fun _ => aG (by simp)
    rw [hw h0]
    refine gr (by omega) (by omega) fun (e : Int) he _ => aG fun hr => ⟨h8, fun e' he' => ?_⟩
    rw [hn h0, he'] at he
    cases he
    simpa using hr
  exact jz (fun h0 => ka (fU (fun _ => hk) fun _ => aG fun _ => ⟨h8, oP (by omega)⟩)) fun _ => hk
theorem vq {a} : (R.iE a).sat (fun r : List Int => r.length ≤ 8 ∧ qs r) := by
  unfold R.iE
  refine aQ fun _ => bD vo fun b hb => ka (fU (fun h => bA (aG (aQ fun _ => aG ?_))) fun _ => aG ⟨by simp, oP (by simp)⟩)
  have := hb h
  exact ⟨by show List.length a.2 ≤ 8; omega, this.2⟩
def mz (m : List Int) : Nat := match m[m.length - 1]? with
  | some e => m.length * 4294967296 + min e.toNat 4294967295
  | none => 0
theorem mz_lt {r m : List Int} (h : r.length < m.length) : mz r < mz m := by
  unfold mz
  have hm : ∃ e, m[m.length - 1]? = some e := ⟨_, List.getElem?_eq_getElem (by omega)⟩
  obtain ⟨e, he⟩ := hm
  rw [he]
  cases r[r.length - 1]? with
  | none => simp only []; omega
  | some x => simp only []; omega
theorem mz_le {m : List Int} (h : m.length ≤ 8) : mz m ≤ 9 * 4294967296 := by
  unfold mz
  cases m[m.length - 1]? with
  | none => simp only []; omega
  | some x => simp only []; omega
theorem wA {e : Int} (h : (Ty.int IntKind.u32).ok e = true) : 0 ≤ e ∧ e < 4294967296 := by
  simp [Ty.ok, cK, IntKind.wrap, IntKind.signed, IntKind.bits] at h
  omega
instance yi {a} : ly (R.gR a) (fun r => r.length ≤ 2 ^ 40) := by
  unfold R.gR
  refine ⟨aQ fun _ => bD vq fun m ⟨hm, ht⟩ => aQ fun _ => jz (fun _ => aG (by simp)) fun hne => bD (R := fun l : List Int => l.length ≤ 2 ^ 39) ?_ fun l hl => q_b fun _ => fU (fun _ => ?_) fun _ => ?_⟩
  · refine nz (fun s => mz s.1) (Nat.le_trans (mz_le hm) (by decide)) (fun s => s.1.length ≤ 8 ∧ qs s.1 ∧ s.2.length + mz s.1 ≤ 9 * 4294967296) ⟨hm, ht, by have := mz_le hm; simp; omega⟩ fun ⟨m, l⟩ ⟨h1, h2, h3⟩ => ?_
    simp only at h1 h2 h3 ⊢
    refine qx (fun hp => ?_) fun _ => aG (by show l.length ≤ 2 ^ 39; omega)
    rw [wrap64 (by omega)]
    obtain ⟨top, htop⟩ : ∃ e, m[m.length - 1]? = some e := ⟨_, List.getElem?_eq_getElem (by omega)⟩
    refine bD (R := fun r : Int × List Int => r.2.length = m.length ∧ r.2[m.length - 1]? = some (top / 10) ∧ 0 ≤ top ∧ top < 4294967296) ?_ fun ⟨r, m'⟩ ⟨g1, g2, g3, g4⟩ => ?_
    · refine nz (fun s => (s.2.1 + 1).toNat) (by simp; omega) (fun s => -1 ≤ s.2.1 ∧ s.2.1 < m.length ∧ s.2.2.length = m.length ∧ (s.2.1 = m.length - 1 → s.1 = 0 ∧ s.2.2 = m) ∧ (s.2.1 < m.length - 1 → s.2.2[m.length - 1]? = some (top / 10) ∧ 0 ≤ top ∧ top < 4294967296)) ⟨by simp only; omega, by simp only; omega, rfl, fun _ => ⟨rfl, rfl⟩, fun h => by simp only at h; omega⟩ fun ⟨r, i, q⟩ ⟨i1, i2, i3, i4, i5⟩ => ?_
      simp only at i1 i2 i3 i4 i5 ⊢
      refine p9 (fun i0 => ?_) fun i0 => aG ?_
      · refine np (by omega) (mD (np (by omega) (rz (by omega) (jX (by omega) (by omega) fun (e : Int) he hok => dk (by decide) (mD (np (by omega) (rz (by omega) (jX (by omega) (by omega) fun _ _ _ => dk (by decide) (aG ?_)))))))))
        have hw : IntKind.wrap .i64 (i - 1) = i - 1 := wrap64 (by omega)
        have hix : (0 + (i.toNat : Int)).toNat = i.toNat := by omega
        rw [hix] at he
        have hr := wA hok
        refine ⟨?_, ?_, ?_, ?_, ?_, ?_⟩
        · simp only [hw]; omega
        · simp only [hw]; omega
        · simp only [hw]; omega
        · simp only [List.length_set]; exact i3
        · simp only [hw]; omega
        · intro hlt
          simp only [hw] at hlt
          by_cases hi : i = m.length - 1
          · obtain ⟨e1, e2⟩ := i4 hi
            subst e1 e2
            have hin : i.toNat = q.length - 1 := by omega
            rw [hin] at he
            rw [he] at htop
            cases htop
            refine ⟨?_, hr⟩
            simp only [or_zero hr.1 hr.2, tenth hr.1 hr.2]
            rw [show 0 + i.toNat = q.length - 1 by omega, List.getElem?_set_self (by omega)]
          · obtain ⟨e1, e2⟩ := i5 (by omega)
            refine ⟨?_, e2⟩
            simp only
            rw [List.getElem?_set_ne (by omega)]
            exact e1
      · have := i5 (by omega)
        exact ⟨i3, this.1, this.2.1, this.2.2⟩
    · simp only at g1 g2 ⊢
      refine n_d (by simp only [List.length_cons, List.length_nil]; omega) (bD u4 fun s ⟨s1, s2, s3⟩ => aQ fun _ => aG ?_)
      have hlt : mz s < mz m := by
        by_cases hs : s.length = m.length
        · have e : s = m' := by rw [s2, hs, ← g1, List.take_length]
          subst e
          unfold mz
          rw [hs, g2, htop]
          have := h2 top htop
          simp only []
          omega
        · exact mz_lt (by omega)
      exact ⟨hlt, by show s.length ≤ 8; omega, s3, by simp only [List.length_append, List.length_cons, List.length_nil]; omega⟩
  · refine n_d (by simp only [List.length_cons, List.length_nil]; omega) (bD o8 fun r hr => aQ fun _ => aG ?_)
    rw [s6, hr]; simp; omega
  · refine bD o8 fun r hr => aQ fun _ => aG ?_
    rw [s6, hr]; omega
end Go.Mach
namespace Go.Mach
namespace Res
variable {α β : Type} {Q : β → Prop}
theorem aR {m : Res α} {k : α → Res β} (h : m.strip.isSome = true) (hk : (k (m.strip.get h)).sat Q) : (m.bind k).sat Q := ae (fC (Option.some_get h).symm rfl) hk
theorem cz {t : Ty} {xs : List t.den} {i : Int} {k : t.den → Res β} (h0 : decide (0 ≤ i) = true) (h : (xs[i.toNat]?).isSome = true) (hk : (k ((xs[i.toNat]?).get h)).sat Q) : (idx t xs i k).sat Q := by
  refine jX (of_decide_eq_true h0) (by simpa using h) fun x hx _ => ?_
  simp only [hx, Option.get_some] at hk
  exact hk
theorem kV {γ δ : Type} {x : γ ⊕ δ} {f : γ → Res β} {g : δ → Res β} (h : x.getLeft?.isSome = true) (hk : (f (x.getLeft?.get h)).sat Q) : (sum x f g).sat Q := by
  cases x
  · exact hk
  · cases h
theorem xx {γ δ : Type} {x : γ ⊕ δ} {f : γ → Res β} {g : δ → Res β} (h : x.getRight?.isSome = true) (hk : (g (x.getRight?.get h)).sat Q) : (sum x f g).sat Q := by
  cases x
  · cases h
  · exact hk
theorem aD {b : Bool} {k : Res β} (h : k.sat Q) : (given b k).sat Q := fun _ => h
theorem km {m m' : Res α} {a : α} {k : α → Res β} (h : m'.sat (· = a)) (e : m = m') (hk : (k a).sat Q) : (m.bind k).sat Q := e ▸ ae h hk
theorem xL {m m' : Res α} {P : α → Prop} {k : α → Res β} (h : m'.sat P) (e : m = m') (hk : ∀ a, P a → (k a).sat Q) : (m.bind k).sat Q := e ▸ bD h hk
def vC (f : α → Res (Step α β)) (n : Nat) (Q : β → Prop) : Step α β → Prop
  | .next a => (loop f n a).sat Q
  | .done b => Q b
theorem jg {f : α → Res (Step α β)} {n : Nat} {a : α} (h : (loop f n a).sat Q) : vC f n Q (.next a) := h
theorem ky {f : α → Res (Step α β)} {n : Nat} {b : β} (h : Q b) : vC f n Q (.done b) := h
theorem gd {f : α → Res (Step α β)} {a : α} {n : Nat} (h : (f a).sat (vC f n Q)) : (loop f (n + 1) a).sat Q := by
  unfold loop
  refine bD h fun s hs => ?_
  cases s with
  | next a' => exact hs
  | done b => exact hs
theorem j9 {f : α → Res (Step α β)} {a : α} {k : Nat} (hk : fuel = k + 40) (h : (f a).sat (vC f (k + 39) Q)) : (loop f fuel a).sat Q := by
  rw [hk]
  exact gd h
end Res
end Go.Mach
set_option maxRecDepth 100000
namespace Go.Mach
open Res
variable {n : Nat} {β : Type} {Q : β → Prop}
theorem gV {x0 x1 x2} {k : _ → Res β} (h : (R.eval_run_list (bS n) x0 x1 x2).sat fun a => (k a).sat Q) : (((bS (n + 1)).eval_run_list x0 x1 x2).bind k).sat Q := bA h
theorem cj {x0 x1 x2 x3} {k : _ → Res β} (h : (R.eval_run_statement (bS n) x0 x1 x2 x3).sat fun a => (k a).sat Q) : (((bS (n + 1)).eval_run_statement x0 x1 x2 x3).bind k).sat Q := bA h
theorem ey {x0 x1 x2 x3} {k : _ → Res β} (h : (R.eval_run_act (bS n) x0 x1 x2 x3).sat fun a => (k a).sat Q) : (((bS (n + 1)).eval_run_act x0 x1 x2 x3).bind k).sat Q := bA h
theorem cY {x0 x1 x2} {k : _ → Res β} (h : (R.eval_run_expression (bS n) x0 x1 x2).sat fun a => (k a).sat Q) : (((bS (n + 1)).eval_run_expression x0 x1 x2).bind k).sat Q := bA h
theorem gL {x0 x1 x2} {k : _ → Res β} (h : (R.eval_run_decls (bS n) x0 x1 x2).sat fun a => (k a).sat Q) : (((bS (n + 1)).eval_run_decls x0 x1 x2).bind k).sat Q := bA h
theorem im {x0 x1 x2} {k : _ → Res β} (h : (R.eval_run_value (bS n) x0 x1 x2).sat fun a => (k a).sat Q) : (((bS (n + 1)).eval_run_value x0 x1 x2).bind k).sat Q := bA h
theorem gf {x0 x1 x2 x3} {k : _ → Res β} (h : (R.eval_run_operation (bS n) x0 x1 x2 x3).sat fun a => (k a).sat Q) : (((bS (n + 1)).eval_run_operation x0 x1 x2 x3).bind k).sat Q := bA h
theorem iO {x0 x1 x2} {k : _ → Res β} (h : (R.eval_run_callee (bS n) x0 x1 x2).sat fun a => (k a).sat Q) : (((bS (n + 1)).eval_run_callee x0 x1 x2).bind k).sat Q := bA h
theorem jJ {x0 x1 x2 x3} {k : _ → Res β} (h : (R.eval_run_call (bS n) x0 x1 x2 x3).sat fun a => (k a).sat Q) : (((bS (n + 1)).eval_run_call x0 x1 x2 x3).bind k).sat Q := bA h
theorem jF {x0 x1 x2 x3} {k : _ → Res β} (h : (R.eval_run_does (bS n) x0 x1 x2 x3).sat fun a => (k a).sat Q) : (((bS (n + 1)).eval_run_does x0 x1 x2 x3).bind k).sat Q := bA h
theorem jK {x0 x1 x2} {k : _ → Res β} (h : (R.eval_run_host (bS n) x0 x1 x2).sat fun a => (k a).sat Q) : (((bS (n + 1)).eval_run_host x0 x1 x2).bind k).sat Q := bA h
end Go.Mach
