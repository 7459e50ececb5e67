/-
  Proved here: the law renlaw12.EvalThrows returns true for every input of the stated bulk and leaves its arguments as they were; no further condition.
  By an AI agent; no person has read it.
-/
import Derived.Test.YtimhplnifencnaaGreatDoorPartj
import Derived.Lib.ItoaLen
set_option linter.all false
set_option linter.deprecated false

set_option maxRecDepth 100000
namespace Go.Mach
open Res
instance (n) : Safe (qX n) := ⟨trivial⟩
instance (n) : Safe (su n) := by unfold su; split <;> exact ⟨trivial⟩
instance (n c) : Safe (ixbRun n c) := ⟨trivial⟩
theorem fE {a} (hl : List.length a ≤ 2 ^ 40) : (R.au a).sat (fun r => r.length = a.length) := by
  unfold R.au
  refine aK fun h => ?_
  have hn : List.length (α := (Ty.int IntKind.u8).den) (im a) = a.length := by simp [im]
  refine bE (q_for (Q := fun r => r.length = a.length) (fun i => i.2) a.length (by omega) (fun x => x.1.length = x.2.toNat) (by simp) (by simp) (by simp) fun i h0 h1 hI => ?_) fun x hx => ?_ <;> repeat' (first | with_reducible (first | refine aI ?_ | refine aK fun _ => ?_ | refine jn ?_ | refine qw (fun _ => ?_) fun _ => ?_ | refine qg (fun _ => ?_) fun _ => ?_ | refine jb (fun _ => ?_) fun _ => ?_ | refine bl rfl ?_ | refine aq rfl ?_ | refine fW (fun _ => ?_) fun _ => ?_ | refine wP ?_ | refine wZ ?_ | refine rX ?_ | refine q_e ?_ | refine q_p fun _ _ => ?_ | refine q_b fun _ => ?_ | refine gp ?_ ?_ fun _ _ _ => ?_ | refine jN ?_ ?_ fun _ _ _ => ?_ | refine mG ?_ | refine bE (fE ?_) fun _ _ => ?_ | refine nt ?_ ?_ | refine sU ?_ ?_ | refine wa ?_ ?_ | refine n_d ?_ ?_ | refine re (fun _ => ?_) fun _ => ?_ | exact safe | refine cH ?_) | exact trivial | dsimp only [Nx, Dn] | with_reducible (first | rfl | refine And.intro ?_ ?_ | intro _ | contradiction) | omega | refine gi (by decide) ?_ | (simp (disch := omega) only [wrap64, iW, i6, List.length_append, List.length_cons, List.length_nil, List.length_take, List.length_drop, List.length_set, List.length_replicate, List.length_reverse] <;> omega) | (simp (disch := omega) only [wrap64, iW, i6, List.length_append, List.length_cons, List.length_nil, List.length_take, List.length_drop, List.length_set, List.length_replicate, List.length_reverse] at * <;> omega) | exact Int.tmod_nonneg _ (by omega) | (simp_all [jO, kI, jU, j8] <;> omega))
instance yW {a} : nU (R.fD a) (fun r => r = true → (a.2.length : Int) ≤ 8) := by
  unfold R.fD
  refine ⟨aK fun h => ?_⟩
  simp only [Sg.i, oks, Sh.ok, Ty.ok, List.map, Par.v, Bool.and_eq_true] at h
  repeat' (first | with_reducible (first | refine aI ?_ | refine aK fun _ => ?_ | refine jn ?_ | refine qw (fun _ => ?_) fun _ => ?_ | refine qg (fun _ => ?_) fun _ => ?_ | refine jb (fun _ => ?_) fun _ => ?_ | refine bl rfl ?_ | refine aq rfl ?_ | refine fW (fun _ => ?_) fun _ => ?_ | refine wP ?_ | refine wZ ?_ | refine rX ?_ | refine q_e ?_ | refine q_p fun _ _ => ?_ | refine q_b fun _ => ?_ | refine gp ?_ ?_ fun _ _ _ => ?_ | refine jN ?_ ?_ fun _ _ _ => ?_ | refine mG ?_ | refine bE (fE ?_) fun _ _ => ?_ | refine nt ?_ ?_ | refine sU ?_ ?_ | refine wa ?_ ?_ | refine n_d ?_ ?_ | refine re (fun _ => ?_) fun _ => ?_ | exact safe | refine cH ?_) | exact trivial | dsimp only [Nx, Dn] | with_reducible (first | rfl | refine And.intro ?_ ?_ | intro _ | contradiction) | omega | refine gi (by decide) ?_ | (simp (disch := omega) only [wrap64, iW, i6, List.length_append, List.length_cons, List.length_nil, List.length_take, List.length_drop, List.length_set, List.length_replicate, List.length_reverse] <;> omega) | (simp (disch := omega) only [wrap64, iW, i6, List.length_append, List.length_cons, List.length_nil, List.length_take, List.length_drop, List.length_set, List.length_replicate, List.length_reverse] at * <;> omega) | exact Int.tmod_nonneg _ (by omega) | (simp_all [jO, kI, jU, j8] <;> omega))
instance sf_num_as {a} : nU (R.eg a) (fun r : Int × Int => (r.1 = 0 → -9007199254740991 ≤ r.2 ∧ r.2 ≤ 9007199254740991) ∧ (r.1 ≠ 0 → 1 ≤ r.1 ∧ r.1 ≤ 4 ∧ r.2 = 0)) := ⟨by
  unfold R.eg R.fg R.eu
  refine aK fun _ => cH (aK fun _ => jb (fun _ => qg (fun _ => ?_) fun _ => ?_) fun _ => bE (R := fun x => x = true → 1 ≤ a.1 ∧ a.1 ≤ 4) (by repeat' (first | with_reducible (first | refine aI ?_ | refine aK fun _ => ?_ | refine jn ?_ | refine qw (fun _ => ?_) fun _ => ?_ | refine qg (fun _ => ?_) fun _ => ?_ | refine jb (fun _ => ?_) fun _ => ?_ | refine bl rfl ?_ | refine aq rfl ?_ | refine fW (fun _ => ?_) fun _ => ?_ | refine wP ?_ | refine wZ ?_ | refine rX ?_ | refine q_e ?_ | refine q_p fun _ _ => ?_ | refine q_b fun _ => ?_ | refine gp ?_ ?_ fun _ _ _ => ?_ | refine jN ?_ ?_ fun _ _ _ => ?_ | refine mG ?_ | refine bE (fE ?_) fun _ _ => ?_ | refine nt ?_ ?_ | refine sU ?_ ?_ | refine wa ?_ ?_ | refine n_d ?_ ?_ | refine re (fun _ => ?_) fun _ => ?_ | exact safe | refine cH ?_) | exact trivial | dsimp only [Nx, Dn] | with_reducible (first | rfl | refine And.intro ?_ ?_ | intro _ | contradiction) | omega | refine gi (by decide) ?_ | (simp (disch := omega) only [wrap64, iW, i6, List.length_append, List.length_cons, List.length_nil, List.length_take, List.length_drop, List.length_set, List.length_replicate, List.length_reverse] <;> omega) | (simp (disch := omega) only [wrap64, iW, i6, List.length_append, List.length_cons, List.length_nil, List.length_take, List.length_drop, List.length_set, List.length_replicate, List.length_reverse] at * <;> omega) | exact Int.tmod_nonneg _ (by omega) | (simp_all [jO, kI, jU, j8] <;> omega))) fun _ _ => ?_)
  · refine aI (jn (qg (fun _ => aI ?_) fun _ => cH (aK fun _ => aI (aK fun _ => aI ?_)))) <;> constructor <;> intro _ <;> simp_all
  · refine aI (jn (aq rfl (cH (aK fun _ => aI (aK fun _ => aI ?_))))); simp
  · refine fW (fun hx => aI (jn (jb (fun _ => aI ?_) fun _ => cH (aK fun _ => aI (aK fun _ => aI ?_))))) fun _ => aI (jn (aq rfl (cH (aK fun _ => aI (aK fun _ => aI ?_))))) <;> simp_all⟩
instance yR {a} : nU (R.gM a) (fun r => r.length ≤ 2 ^ 40) := by
  unfold R.gM
  refine ⟨aK fun _ => q_p fun (x : Int × Int) hx => aK fun _ => jb (fun _ => aI (by simp)) fun _ => jb (fun _ => aI (by simp)) fun _ => jb (fun _ => aI (by simp)) fun _ => aO (a := Lib.itoa x.2) rfl (aK fun _ => aI ?_)⟩
  have h : -9223372036854775808 ≤ x.2 ∧ x.2 ≤ 9223372036854775807 := by
    have h3 := hx
    by_cases h0 : x.1 = 0
    · have := h3.1 h0; omega
    · have := h3.2 h0; omega
  exact Nat.le_trans (Lib.itoa_length_le x.2 h.1 h.2) (by decide)
instance yS {a} : nU (R.fh a) (fun r => r.length ≤ a.length) := by
  unfold R.fh
  refine ⟨aK fun h => ?_⟩
  simp only [Sg.i, oks, Sh.ok, Ty.ok, List.map, Par.v, Bool.and_eq_true] at h
  have := si h
  refine bE (na (fun m => m.length) (by omega) (fun m => m.length ≤ a.length) (Nat.le_refl _) fun m hm => ?_) fun x hx => hx
  repeat' (first | with_reducible (first | refine aI ?_ | refine aK fun _ => ?_ | refine jn ?_ | refine qw (fun _ => ?_) fun _ => ?_ | refine qg (fun _ => ?_) fun _ => ?_ | refine jb (fun _ => ?_) fun _ => ?_ | refine bl rfl ?_ | refine aq rfl ?_ | refine fW (fun _ => ?_) fun _ => ?_ | refine wP ?_ | refine wZ ?_ | refine rX ?_ | refine q_e ?_ | refine q_p fun _ _ => ?_ | refine q_b fun _ => ?_ | refine gp ?_ ?_ fun _ _ _ => ?_ | refine jN ?_ ?_ fun _ _ _ => ?_ | refine mG ?_ | refine bE (fE ?_) fun _ _ => ?_ | refine nt ?_ ?_ | refine sU ?_ ?_ | refine wa ?_ ?_ | refine n_d ?_ ?_ | refine re (fun _ => ?_) fun _ => ?_ | exact safe | refine cH ?_) | exact trivial | dsimp only [Nx, Dn] | with_reducible (first | rfl | refine And.intro ?_ ?_ | intro _ | contradiction) | omega | refine gi (by decide) ?_ | (simp (disch := omega) only [wrap64, iW, i6, List.length_append, List.length_cons, List.length_nil, List.length_take, List.length_drop, List.length_set, List.length_replicate, List.length_reverse] <;> omega) | (simp (disch := omega) only [wrap64, iW, i6, List.length_append, List.length_cons, List.length_nil, List.length_take, List.length_drop, List.length_set, List.length_replicate, List.length_reverse] at * <;> omega) | exact Int.tmod_nonneg _ (by omega) | (simp_all [jO, kI, jU, j8] <;> omega))
instance yV {a_0} : Safe (R.iL a_0) := by unfold R.iL; repeat' (first | with_reducible (first | apply Safe.g' | apply Safe.br' | apply Safe.bd' | apply Safe.sm' | intro _ | infer_instance))
theorem oy {a : List Int} : (R.bN a).sat (fun r => List.length r.2 = a.length) := by
  unfold R.bN
  refine aK fun h => ?_
  simp only [Sg.i, oks, Sh.ok, Ty.ok, List.map, Par.v, Bool.and_eq_true] at h
  have := si h
  rw [wrap64 (by omega)]
  refine bE (na (Q := fun r => r.length = a.length) (fun i => (i.2.1 - i.1 + 1).toNat) (by simp; omega) (fun i => 0 ≤ i.1 ∧ i.1 ≤ i.2.1 + 1 ∧ i.2.1 < a.length ∧ i.2.2.length = a.length) (by simp <;> omega) fun i ⟨i1, i2, i3, i4⟩ => ?_) fun x hx => ?_ <;> repeat' (first | with_reducible (first | refine aI ?_ | refine aK fun _ => ?_ | refine jn ?_ | refine qw (fun _ => ?_) fun _ => ?_ | refine qg (fun _ => ?_) fun _ => ?_ | refine jb (fun _ => ?_) fun _ => ?_ | refine bl rfl ?_ | refine aq rfl ?_ | refine fW (fun _ => ?_) fun _ => ?_ | refine wP ?_ | refine wZ ?_ | refine rX ?_ | refine q_e ?_ | refine q_p fun _ _ => ?_ | refine q_b fun _ => ?_ | refine gp ?_ ?_ fun _ _ _ => ?_ | refine jN ?_ ?_ fun _ _ _ => ?_ | refine mG ?_ | refine bE (fE ?_) fun _ _ => ?_ | refine nt ?_ ?_ | refine sU ?_ ?_ | refine wa ?_ ?_ | refine n_d ?_ ?_ | refine re (fun _ => ?_) fun _ => ?_ | exact safe | refine cH ?_) | exact trivial | dsimp only [Nx, Dn] | with_reducible (first | rfl | refine And.intro ?_ ?_ | intro _ | contradiction) | omega | refine gi (by decide) ?_ | (simp (disch := omega) only [wrap64, iW, i6, List.length_append, List.length_cons, List.length_nil, List.length_take, List.length_drop, List.length_set, List.length_replicate, List.length_reverse] <;> omega) | (simp (disch := omega) only [wrap64, iW, i6, List.length_append, List.length_cons, List.length_nil, List.length_take, List.length_drop, List.length_set, List.length_replicate, List.length_reverse] at * <;> omega) | exact Int.tmod_nonneg _ (by omega) | (simp_all [jO, kI, jU, j8] <;> omega))
theorem tP (l : List Int) : (lx l).length = l.length := by simp [lx]
theorem or_zero {x : Int} (h0 : 0 ≤ x) (h1 : x < 4294967296) : iO .or .u64 (sV .u64 0 32) (IntKind.wrap .u64 x) = x := by
  have e1 : sV .u64 0 32 = 0 := by simp [sV, IntKind.wrap, IntKind.signed, IntKind.bits]
  have e2 : IntKind.wrap .u64 x = x := by simp [IntKind.wrap, IntKind.signed, IntKind.bits]; omega
  rw [e1, e2]
  unfold iO
  have e3 : BitVec.ofInt IntKind.u64.bits 0 = 0#64 := rfl
  simp only [e3]
  show IntKind.wrap .u64 ((0#64 ||| BitVec.ofInt 64 x).toNat : Int) = x
  rw [BitVec.zero_or, BitVec.toNat_ofInt]
  simp [IntKind.wrap, IntKind.signed, IntKind.bits]
  omega
theorem tenth {x : Int} (h0 : 0 ≤ x) (h1 : x < 4294967296) : IntKind.wrap .u32 (IntKind.wrap .u64 (Int.tdiv x 10)) = x / 10 := by
  rw [Int.tdiv_eq_ediv_of_nonneg h0]
  simp [IntKind.wrap, IntKind.signed, IntKind.bits]
  omega
def qe (m : List Int) : Prop := ∀ e : Int, m[m.length - 1]? = some e → e ≠ 0
theorem oR {m : List Int} (h : (m.length : Int) ≤ 0) : qe m := fun e he => by
  have : m = [] := List.length_eq_zero_iff.1 (by omega)
  subst this; cases he
theorem uo {a : List Int} : (R.fh a).sat (fun r : List Int => r.length ≤ a.length ∧ r = a.take r.length ∧ qe r) := by
  unfold R.fh
  refine aK fun h => ?_
  simp only [Sg.i, oks, Sh.ok, Ty.ok, List.map, Par.v, Bool.and_eq_true] at h
  have := si h
  refine bE (na (Q := fun m : List Int => m.length ≤ a.length ∧ m = a.take m.length ∧ qe m) (fun m => m.length) (by omega) (fun m => m.length ≤ a.length ∧ m = a.take m.length) ⟨Nat.le_refl _, by simp⟩ fun m ⟨hm, ht⟩ => ?_) fun x hx => aI hx
  refine cH (qw (fun h0 => ?_) fun h0 => aI (aq rfl (aI ⟨hm, ht, oR h0⟩)))
  have hw : IntKind.wrap .i64 ((m.length : Int) - 1) = (m.length : Int) - 1 := wrap64 (by omega)
  have hn : ((m.length : Int) - 1).toNat = m.length - 1 := by omega
  rw [hw]
  refine mG (nt (by omega) (sU (by omega) (jN (by omega) (by omega) fun (e : Int) he _ => aI (jb (fun h => ?_) fun h => aI ⟨hm, ht, ?_⟩))))
  · refine mG (nt (by omega) (nt (by omega) (aI ⟨?_, ?_, ?_⟩)))
    · simp only [List.length_take, List.length_drop]; omega
    · simp only [List.length_take, List.length_drop]; omega
    · rw [List.drop_zero, hn, List.length_take, Nat.min_eq_left (by omega)]
      have : List.take (m.length - 1) m = List.take (m.length - 1) (List.take m.length a) := by rw [← ht]
      rw [this, List.take_take, Nat.min_eq_left (by omega)]
  · intro e' he'
    rw [idx0, hn, he'] at he
    cases he
    exact h
theorem wj {a} : (R.fD a).sat (fun r => r = true → (a.2.length : Int) ≤ 8 ∧ qe a.2) := by
  unfold R.fD
  refine aK fun h => qg (fun h8 => ?_) fun _ => aI (by simp)
  have hw (h : 0 < (a.2.length : Int)) : IntKind.wrap .i64 ((a.2.length : Int) - 1) = (a.2.length : Int) - 1 := wrap64 (by omega)
  have hn (h : 0 < (a.2.length : Int)) : ((a.2.length : Int) - 1).toNat = a.2.length - 1 := by omega
  have hk : (Res.br (ilt 0 (a.2.length : Int)) (Res.eI .w a.2 (IntKind.wrap .i64 ((a.2.length : Int) - 1)) fun e2 => Res.ok ((!(e2 == 0)))) (Res.ok (false))).sat (fun r => r = true → (a.2.length : Int) ≤ 8 ∧ qe a.2) := by
    refine qw (fun h0 => ?_) fun _ => aI (by simp)
    rw [hw h0]
    refine gp (by omega) (by omega) fun (e : Int) he _ => aI fun hr => ⟨h8, fun e' he' => ?_⟩
    rw [hn h0, he'] at he
    cases he
    simpa using hr
  exact jb (fun h0 => jn (fW (fun _ => hk) fun _ => aI fun _ => ⟨h8, oR (by omega)⟩)) fun _ => hk
theorem vv {a} : (R.hB a).sat (fun r : List Int => r.length ≤ 8 ∧ qe r) := by
  unfold R.hB
  refine aK fun _ => bE wj fun b hb => jn (fW (fun h => cH (aI (aK fun _ => aI ?_))) fun _ => aI ⟨by simp, oR (by simp)⟩)
  have := hb h
  exact ⟨by show List.length a.2 ≤ 8; omega, this.2⟩
def mz (m : List Int) : Nat := match m[m.length - 1]? with
  | some e => m.length * 4294967296 + min e.toNat 4294967295
  | none => 0
theorem mz_lt {r m : List Int} (h : r.length < m.length) : mz r < mz m := by
  unfold mz
  have hm : ∃ e, m[m.length - 1]? = some e := ⟨_, List.getElem?_eq_getElem (by omega)⟩
  obtain ⟨e, he⟩ := hm
  rw [he]
  cases r[r.length - 1]? with
  | none => simp only []; omega
  | some x => simp only []; omega
theorem mz_le {m : List Int} (h : m.length ≤ 8) : mz m ≤ 9 * 4294967296 := by
  unfold mz
  cases m[m.length - 1]? with
  | none => simp only []; omega
  | some x => simp only []; omega
theorem ve {e : Int} (h : (Ty.int IntKind.u32).ok e = true) : 0 ≤ e ∧ e < 4294967296 := by
  simp [Ty.ok, cG, IntKind.wrap, IntKind.signed, IntKind.bits] at h
  omega
instance yT {a} : nU (R.gI a) (fun r => r.length ≤ 2 ^ 40) := by
  unfold R.gI
  refine ⟨aK fun _ => bE vv fun m ⟨hm, ht⟩ => aK fun _ => jb (fun _ => aI (by simp)) fun hne => bE (R := fun l : List Int => l.length ≤ 2 ^ 39) ?_ fun l hl => q_b fun _ => fW (fun _ => ?_) fun _ => ?_⟩
  · refine na (fun s => mz s.1) (Nat.le_trans (mz_le hm) (by decide)) (fun s => s.1.length ≤ 8 ∧ qe s.1 ∧ s.2.length + mz s.1 ≤ 9 * 4294967296) ⟨hm, ht, by have := mz_le hm; simp; omega⟩ fun ⟨m, l⟩ ⟨h1, h2, h3⟩ => ?_
    simp only at h1 h2 h3 ⊢
    refine qw (fun hp => ?_) fun _ => aI (by show l.length ≤ 2 ^ 39; omega)
    rw [wrap64 (by omega)]
    obtain ⟨top, htop⟩ : ∃ e, m[m.length - 1]? = some e := ⟨_, List.getElem?_eq_getElem (by omega)⟩
    refine bE (R := fun r : Int × List Int => r.2.length = m.length ∧ r.2[m.length - 1]? = some (top / 10) ∧ 0 ≤ top ∧ top < 4294967296) ?_ fun ⟨r, m'⟩ ⟨g1, g2, g3, g4⟩ => ?_
    · refine na (fun s => (s.2.1 + 1).toNat) (by simp; omega) (fun s => -1 ≤ s.2.1 ∧ s.2.1 < m.length ∧ s.2.2.length = m.length ∧ (s.2.1 = m.length - 1 → s.1 = 0 ∧ s.2.2 = m) ∧ (s.2.1 < m.length - 1 → s.2.2[m.length - 1]? = some (top / 10) ∧ 0 ≤ top ∧ top < 4294967296)) ⟨by simp only; omega, by simp only; omega, rfl, fun _ => ⟨rfl, rfl⟩, fun h => by simp only at h; omega⟩ fun ⟨r, i, q⟩ ⟨i1, i2, i3, i4, i5⟩ => ?_
      simp only at i1 i2 i3 i4 i5 ⊢
      refine qg (fun i0 => ?_) fun i0 => aI ?_
      · refine nt (by omega) (mG (nt (by omega) (sU (by omega) (jN (by omega) (by omega) fun (e : Int) he hok => gi (by decide) (mG (nt (by omega) (sU (by omega) (jN (by omega) (by omega) fun _ _ _ => gi (by decide) (aI ?_)))))))))
        have hw : IntKind.wrap .i64 (i - 1) = i - 1 := wrap64 (by omega)
        have hix : (0 + (i.toNat : Int)).toNat = i.toNat := by omega
        rw [hix] at he
        have hr := ve hok
        refine ⟨?_, ?_, ?_, ?_, ?_, ?_⟩
        · simp only [hw]; omega
        · simp only [hw]; omega
        · simp only [hw]; omega
        · simp only [List.length_set]; exact i3
        · simp only [hw]; omega
        · intro hlt
          simp only [hw] at hlt
          by_cases hi : i = m.length - 1
          · obtain ⟨e1, e2⟩ := i4 hi
            subst e1 e2
            have hin : i.toNat = q.length - 1 := by omega
            rw [hin] at he
            rw [he] at htop
            cases htop
            refine ⟨?_, hr⟩
            simp only [or_zero hr.1 hr.2, tenth hr.1 hr.2]
            rw [show 0 + i.toNat = q.length - 1 by omega, List.getElem?_set_self (by omega)]
          · obtain ⟨e1, e2⟩ := i5 (by omega)
            refine ⟨?_, e2⟩
            simp only
            rw [List.getElem?_set_ne (by omega)]
            exact e1
      · have := i5 (by omega)
        exact ⟨i3, this.1, this.2.1, this.2.2⟩
    · simp only at g1 g2 ⊢
      refine n_d (by simp only [List.length_cons, List.length_nil]; omega) (bE uo fun s ⟨s1, s2, s3⟩ => aK fun _ => aI ?_)
      have hlt : mz s < mz m := by
        by_cases hs : s.length = m.length
        · have e : s = m' := by rw [s2, hs, ← g1, List.take_length]
          subst e
          unfold mz
          rw [hs, g2, htop]
          have := h2 top htop
          simp only []
          omega
        · exact mz_lt (by omega)
      exact ⟨hlt, by show s.length ≤ 8; omega, s3, by simp only [List.length_append, List.length_cons, List.length_nil]; omega⟩
  · refine n_d (by simp only [List.length_cons, List.length_nil]; omega) (bE oy fun r hr => aK fun _ => aI ?_)
    rw [tP, hr]; simp; omega
  · refine bE oy fun r hr => aK fun _ => aI ?_
    rw [tP, hr]; omega
end Go.Mach
namespace Go.Mach
namespace Res
variable {α β : Type} {Q : β → Prop}
theorem cV {m : Res α} {k : α → Res β} (h : m.strip.isSome = true) (hk : (k (m.strip.get h)).sat Q) : (m.bind k).sat Q := aO (fB (Option.some_get h).symm rfl) hk
theorem gD {t : Ty} {xs : List t.den} {i : Int} {k : t.den → Res β} (h0 : decide (0 ≤ i) = true) (h : (xs[i.toNat]?).isSome = true) (hk : (k ((xs[i.toNat]?).get h)).sat Q) : (idx t xs i k).sat Q := by
  refine jN (of_decide_eq_true h0) (by simpa using h) fun x hx _ => ?_
  simp only [hx, Option.get_some] at hk
  exact hk
theorem vS {γ δ : Type} {x : γ ⊕ δ} {f : γ → Res β} {g : δ → Res β} (h : x.getLeft?.isSome = true) (hk : (f (x.getLeft?.get h)).sat Q) : (sum x f g).sat Q := by
  cases x
  · exact hk
  · cases h
theorem rj {γ δ : Type} {x : γ ⊕ δ} {f : γ → Res β} {g : δ → Res β} (h : x.getRight?.isSome = true) (hk : (g (x.getRight?.get h)).sat Q) : (sum x f g).sat Q := by
  cases x
  · cases h
  · exact hk
theorem aN {b : Bool} {k : Res β} (h : k.sat Q) : (given b k).sat Q := fun _ => h
def xV (f : α → Res (Step α β)) (n : Nat) (Q : β → Prop) : Step α β → Prop
  | .next a => (loop f n a).sat Q
  | .done b => Q b
theorem om {f : α → Res (Step α β)} {n : Nat} {b : β} (h : Q b) : xV f n Q (.done b) := h
theorem xP {f : α → Res (Step α β)} {a : α} {n : Nat} (h : (f a).sat (xV f n Q)) : (loop f (n + 1) a).sat Q := by
  unfold loop
  refine bE h fun s hs => ?_
  cases s with
  | next a' => exact hs
  | done b => exact hs
theorem oT {f : α → Res (Step α β)} {a : α} {k : Nat} (hk : fuel = k + 40) (h : (f a).sat (xV f (k + 39) Q)) : (loop f fuel a).sat Q := by
  rw [hk]
  exact xP h
end Res
end Go.Mach
set_option maxRecDepth 100000
namespace Go.Mach
open Res
variable {n : Nat} {β : Type} {Q : β → Prop}
theorem gW {x0 x1 x2} {k : _ → Res β} (h : (R.eval_run_list (bI n) x0 x1 x2).sat fun a => (k a).sat Q) : (((bI (n + 1)).eval_run_list x0 x1 x2).bind k).sat Q := cH h
theorem dI {x0 x1 x2 x3} {k : _ → Res β} (h : (R.eval_run_statement (bI n) x0 x1 x2 x3).sat fun a => (k a).sat Q) : (((bI (n + 1)).eval_run_statement x0 x1 x2 x3).bind k).sat Q := cH h
theorem fF {x0 x1 x2 x3} {k : _ → Res β} (h : (R.eval_run_act (bI n) x0 x1 x2 x3).sat fun a => (k a).sat Q) : (((bI (n + 1)).eval_run_act x0 x1 x2 x3).bind k).sat Q := cH h
theorem gP {x0 x1 x2} {k : _ → Res β} (h : (R.eval_run_expression (bI n) x0 x1 x2).sat fun a => (k a).sat Q) : (((bI (n + 1)).eval_run_expression x0 x1 x2).bind k).sat Q := cH h
theorem jc {x0 x1 x2} {k : _ → Res β} (h : (R.eval_run_block (bI n) x0 x1 x2).sat fun a => (k a).sat Q) : (((bI (n + 1)).eval_run_block x0 x1 x2).bind k).sat Q := cH h
theorem lb {x0 x1 x2} {k : _ → Res β} (h : (R.eval_run_try (bI n) x0 x1 x2).sat fun a => (k a).sat Q) : (((bI (n + 1)).eval_run_try x0 x1 x2).bind k).sat Q := cH h
theorem oM {x0 x1 x2} {k : _ → Res β} (h : (R.eval_run_value (bI n) x0 x1 x2).sat fun a => (k a).sat Q) : (((bI (n + 1)).eval_run_value x0 x1 x2).bind k).sat Q := cH h
theorem oY {x0 x1 x2 x3 x4} {k : _ → Res β} (h : (R.eval_run_catch (bI n) x0 x1 x2 x3 x4).sat fun a => (k a).sat Q) : (((bI (n + 1)).eval_run_catch x0 x1 x2 x3 x4).bind k).sat Q := cH h
theorem lX {x0 x1 x2 x3} {k : _ → Res β} (h : (R.eval_run_operation (bI n) x0 x1 x2 x3).sat fun a => (k a).sat Q) : (((bI (n + 1)).eval_run_operation x0 x1 x2 x3).bind k).sat Q := cH h
theorem nQ {x0 x1 x2} {k : _ → Res β} (h : (R.eval_run_callee (bI n) x0 x1 x2).sat fun a => (k a).sat Q) : (((bI (n + 1)).eval_run_callee x0 x1 x2).bind k).sat Q := cH h
theorem pT {x0 x1 x2 x3} {k : _ → Res β} (h : (R.eval_run_call (bI n) x0 x1 x2 x3).sat fun a => (k a).sat Q) : (((bI (n + 1)).eval_run_call x0 x1 x2 x3).bind k).sat Q := cH h
theorem pH {x0 x1 x2 x3} {k : _ → Res β} (h : (R.eval_run_does (bI n) x0 x1 x2 x3).sat fun a => (k a).sat Q) : (((bI (n + 1)).eval_run_does x0 x1 x2 x3).bind k).sat Q := cH h
theorem pL {x0 x1 x2} {k : _ → Res β} (h : (R.eval_run_host (bI n) x0 x1 x2).sat fun a => (k a).sat Q) : (((bI (n + 1)).eval_run_host x0 x1 x2).bind k).sat Q := cH h
end Go.Mach
