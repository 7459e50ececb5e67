/-
  Proved here: the law renlaw12.EvalFuel returns true for every input of the stated bulk and leaves its arguments as they were; no further condition.
  By an AI agent; no person has read it.
-/
import Derived.Test.YtflklojcjfaenaaGreatDoorPartl
import Derived.KernelRfl
import GoSem.ClaimGoes
set_option linter.all false
set_option linter.deprecated false
set_option maxRecDepth 1000000
namespace Go.Mach
theorem vK : R.eJ.strip = some true := by kernel_rfl
theorem rz : R.eJ.sat (· = true) := by
  have h := vK
  generalize R.eJ = m at h
  exact Res.oX h rfl
end Go.Mach
set_option maxRecDepth 100000
namespace Go.Mach
open Res
theorem mU {α : Type} {m : Res α} {a : α} (h : m.strip = some a) : m.sat (· = a) := Res.oX h rfl
abbrev p8 := aB.den
abbrev Aw := List p8
theorem xP {t : Aw} {e0 : p8} (hl : t.length ≤ 4096) (h0 : t[0]? = some e0) (hk0 : e0.1 = 1) (ho : (R.ia t).sat (· = true)) (h1 : ∀ (n : Nat) (e : p8), 0 < n → t[n]? = some e → e.1 ≠ 1) (hf : ∀ (n : Nat) (e : p8), t[n]? = some e → (R.gI e).sat (· = true))
    (hk : ∀ n : Nat, n < t.length → (R.i6 t n).sat (· = true)) (hd : (R.gv t).sat fun d => (R.da d).sat fun m => m ≤ 48) : (R.kn t).sat (· = true) := by
  unfold R.kn
  have hpos : 0 < t.length := (List.getElem?_eq_some_iff.1 h0).1
  refine cH fun _ => ah (a := false) ?_ (fW rfl ?_)
  · refine fW (by rw [beq_eq_false_iff_ne]; omega) (fW (by rw [lP]; omega) (kY (by omega) (by simpa using hpos) fun e he _ => ?_))
    have he : t[0]? = some e := he
    rw [h0] at he; cases he
    exact fW (by simp [hk0]) (ah ho (cG rfl))
  refine ah (a := .inl ()) ?_ (oE (kF hd fun d hd => cH fun _ => kF hd fun m hm => cH fun _ => cG (by rw [rh]; exact hm)))
  refine mT (fun i : Int => i) t.length (by omega) (fun i : Int => 0 ≤ i ∧ i ≤ t.length) ⟨by omega, by omega⟩ (fun i h => h) ?_
  rintro i ⟨i0, i1⟩
  refine mi (fun h => ?_) fun _ => cG rfl
  rw [ka] at h
  have hi : i.toNat < t.length := by omega
  have hin : ((i.toNat : Nat) : Int) = i := by omega
  have w : IntKind.wrap .i64 (i + 1) = i + 1 := wrap64 ⟨by omega, by omega⟩
  refine ah (a := false) (mi (fun hp => ?_) fun hp => ?_) (fW rfl (cG ⟨w, by rw [w]; omega, by rw [w]; omega⟩))
  · rw [ka] at hp
    refine kY i0 hi fun e he _ => ?_
    refine fW (by simpa using h1 _ e (by omega) he) (kY i0 hi fun e' he' _ => ah (hf _ _ he') (fW rfl (ah (a := true) ?_ (cG rfl))))
    have := hk _ hi
    rwa [hin] at this
  · refine kY i0 hi fun e' he' _ => ah (hf _ _ he') (fW rfl (ah (a := true) ?_ (cG rfl)))
    have := hk _ hi
    rwa [hin] at this
theorem uG {t : Aw} (hl : t.length ≤ 4096) (hm : (R.kn t).sat (· = true)) {up : List Int} (hp : (R.fe t).sat (· = up)) (hw : ∀ n : Nat, n < t.length → (R.ic t up n).sat (· = false)) : (R.gJ t).sat (· = (0, 0)) := by
  unfold R.gJ
  refine cH fun _ => ah hm (fW rfl (ah hp (cH fun _ => ah (a := .inl ()) ?_ (oE (cG rfl)))))
  refine mT (fun i : Int => i) t.length (by omega) (fun i : Int => 0 ≤ i ∧ i ≤ t.length) ⟨by omega, by omega⟩ (fun i h => h) ?_
  rintro i ⟨i0, i1⟩
  refine mi (fun h => ?_) fun _ => cG rfl
  rw [ka] at h
  have hi : i.toNat < t.length := by omega
  have hin : ((i.toNat : Nat) : Int) = i := by omega
  have w : IntKind.wrap .i64 (i + 1) = i + 1 := wrap64 ⟨by omega, by omega⟩
  have := hw _ hi
  rw [hin] at this
  exact ah this (fW rfl (cG ⟨w, by rw [w]; omega, by rw [w]; omega⟩))
end Go.Mach
set_option maxRecDepth 100000
namespace Go.Mach
open Res
def y5 : p8 := (2, ([], ([], ((0, 0), ((false, []), [])))))
def mI (n : Nat) : List Int := (List.range n).map fun (i : Nat) => (i : Int) + 1
def pQ (n : Nat) : p8 := (1, ([], ([], ((0, 0), ((false, []), mI n)))))
def iO (n : Nat) : Aw := pQ n :: List.replicate n y5
theorem jN (n : Nat) : (iO n).length = n + 1 := by simp [iO]
theorem gO (n : Nat) : (mI n).length = n := by simp [mI]
theorem vG {n i : Nat} (h : i < n) : (mI n)[i]? = some ((i : Int) + 1) := by simp [mI, h]
theorem nj {n i : Nat} {x : Int} (h : (mI n)[i]? = some x) : i < n ∧ x = (i : Int) + 1 := by
  have hi : i < n := by
    have := (List.getElem?_eq_some_iff.1 h).1
    rwa [gO] at this
  rw [vG hi] at h
  exact ⟨hi, (Option.some.inj h).symm⟩
theorem tf {n k : Nat} (h : k < n) : (mI n).drop k = ((k : Int) + 1) :: (mI n).drop (k + 1) := by
  rw [List.drop_eq_getElem_cons (by rw [gO]; exact h)]
  congr 1
  have := vG h
  rw [List.getElem?_eq_getElem (by rw [gO]; exact h)] at this
  exact Option.some.inj this
theorem nB {n k : Nat} {e : p8} (h : (iO n)[k]? = some e) : (k = 0 ∧ e = pQ n) ∨ (0 < k ∧ k ≤ n ∧ e = y5) := by
  cases k with
  | zero => left; cases h; exact ⟨rfl, rfl⟩
  | succ k =>
    right
    simp only [iO, List.getElem?_cons_succ, List.getElem?_replicate] at h
    split at h
    · cases h; exact ⟨by omega, by omega, rfl⟩
    · cases h
theorem nF {n : Int} (h : -9223372036854775808 ≤ n ∧ n < 9223372036854775808) : IntKind.wrap .i64 n = n := wrap64 h
theorem orderN {n : Nat} (hn : n ≤ 1000) : (R.ia (iO n)).sat (· = true) := by
  unfold R.ia
  have hlen := jN n
  refine cH fun _ => ah (a := .inl []) ?_ (oE (cG rfl))
  refine mT (fun a : List Int × Int => a.2) (n + 1) (by omega) (fun a : List Int × Int => ∃ k : Nat, a.2 = k ∧ k ≤ n + 1 ∧ a.1 = if k = 0 then [] else ((mI n).drop (k - 1)).reverse) ⟨0, rfl, Nat.zero_le _, rfl⟩ ?_ ?_
  · rintro ⟨x, y⟩ ⟨k, g1, g2, _⟩
    simp only at g1 ⊢; omega
  rintro ⟨x, y⟩ ⟨k, g1, g2, g3⟩
  simp only at g1 g3 ⊢
  subst g1
  rw [hlen]
  refine mi (fun h => ?_) fun h => ?_
  · rw [ka] at h
    have hk : k ≤ n := by omega
    have w1 : IntKind.wrap .i64 ((k : Int) + 1) = ((k + 1 : Nat) : Int) := nF ⟨by omega, by omega⟩
    refine kY (by omega) (by simp [hlen]; omega) fun e he _ => ?_
    have he : (iO n)[k]? = some e := he
    rcases nB he with ⟨rfl, rfl⟩ | ⟨hk0, _, rfl⟩
    ·
      simp only [if_true] at g3
      subst g3
      refine ah (a := .inl []) (fW (by decide) (cG rfl)) (oE ?_)
      refine ah (a := .inl (mI n).reverse) ?_ (oE (cG ⟨w1, 1, w1, by omega, rfl⟩))
      have hkl : (pQ n).2.2.2.2.2 = mI n := rfl
      rw [hkl, gO]
      refine rY (fun m a => ∃ j : Nat, m = j ∧ j ≤ n ∧ a.2 = (j : Int) - 1 ∧ a.1 = ((mI n).drop j).reverse) ?_ _ n _ (Nat.lt_of_le_of_lt hn (by decide)) ⟨n, rfl, Nat.le_refl _, nF ⟨by omega, by omega⟩, by rw [List.drop_of_length_le (by rw [gO]; exact Nat.le_refl _)]; rfl⟩
      rintro m ⟨x, y⟩ ⟨j, rfl, j1, j2, j3⟩
      simp only at j2 j3 ⊢
      subst j2 j3
      refine mi (fun hj => ?_) fun hj => cG ?_
      · rw [rh] at hj
        obtain ⟨i, rfl⟩ : ∃ i, m = i + 1 := ⟨m - 1, by omega⟩
        have hix : (((i + 1 : Nat) : Int) - 1).toNat = i := by omega
        have hlt : (((i + 1 : Nat) : Int) - 1).toNat < (mI n).length := by rw [gO]; omega
        have w2 : IntKind.wrap .i64 (((i + 1 : Nat) : Int) - 1 - 1) = (i : Int) - 1 := by rw [nF ⟨by omega, by omega⟩]; omega
        refine ah (a := false) (kg hj hlt fun e he _ => ?_) (fW rfl (kg hj hlt fun e he _ => kv ?_ (cG ⟨i, by omega, i, rfl, by omega, w2, ?_⟩)))
        · rw [hix] at he
          obtain ⟨h1, rfl⟩ := nj he
          refine fW (by rw [pJ]; omega) (kg hj hlt fun e' he' _ => cG ?_)
          rw [hix] at he'
          obtain ⟨_, rfl⟩ := nj he'
          rw [pJ]; omega
        · rw [decide_eq_true_eq]; simp only [List.length_reverse, List.length_drop, List.length_singleton, gO]; omega
        · rw [hix] at he
          obtain ⟨h1, rfl⟩ := nj he
          rw [tf h1, List.reverse_cons]
      · rw [pJ] at hj
        have : m = 0 := by omega
        subst this
        rfl
    ·
      obtain ⟨i, rfl⟩ : ∃ i, k = i + 1 := ⟨k - 1, by omega⟩
      rw [if_neg (by omega), Nat.add_sub_cancel, tf (by omega), List.reverse_cons] at g3
      subst g3
      have hl : ((((mI n).drop (i + 1)).reverse ++ [((i : Int) + 1)]).length : Int) = ((n - (i + 1) + 1 : Nat) : Int) := by simp [gO]
      have w3 : IntKind.wrap .i64 (((n - (i + 1) + 1 : Nat) : Int) - 1) = ((n - (i + 1) : Nat) : Int) := by rw [nF ⟨by omega, by omega⟩]; omega
      rw [hl, w3]
      have hll : (((mI n).drop (i + 1)).reverse).length = n - (i + 1) := by simp [gO]
      refine ah (a := .inl ((mI n).drop (i + 1)).reverse) (ly (by rw [ka]; omega) (ah (a := false) (fW (by rw [beq_eq_false_iff_ne]; omega) (kv (by simp [ile, ilt]; omega) (kg (by omega) (by simp [gO]) fun e he _ => cG ?_))) (fW rfl (kv (by simp [ile]; omega) (cG ?_))))) (oE ?_)
      · rw [idx0, Int.toNat_natCast, ← hll, List.getElem?_append_right (Nat.le_refl _), Nat.sub_self] at he
        cases he
        simp
      · rw [Int.toNat_natCast, List.drop_zero, ← hll, List.take_left]
      refine ah (a := .inl ((mI n).drop (i + 1)).reverse) ?_ (oE (cG ⟨w1, i + 1 + 1, w1, by omega, rfl⟩))
      refine rY (fun m a => m = 0 ∧ a = (((mI n).drop (i + 1)).reverse, (-1 : Int))) ?_ _ 0 _ (by decide) ⟨rfl, rfl⟩
      rintro m _ ⟨rfl, rfl⟩
      exact fW rfl (cG rfl)
  · rw [lP] at h
    have : k = n + 1 := by omega
    subst this
    rw [if_neg (by omega), Nat.add_sub_cancel, List.drop_of_length_le (by rw [gO]; exact Nat.le_refl _)] at g3
    subst g3
    exact cG rfl
end Go.Mach
set_option maxRecDepth 100000
namespace Go.Mach
open Res
theorem rm {n k : Nat} (h : k < n) : (iO n)[k + 1]? = some y5 := by simp [iO, h]
theorem BJ : (R.gI y5).sat (· = true) := mU (by kernel_rfl)
theorem Ba (n : Nat) : (R.gI (pQ n)).sat (· = true) := mU (by kernel_rfl)
theorem kids_n {n : Nat} (hn : n ≤ 1000) (k : Nat) (hk : k < (iO n).length) : (R.i6 (iO n) k).sat (· = true) := by
  unfold R.i6
  rw [jN] at hk
  refine cH fun _ => kY (by omega) (by rw [jN]; omega) fun e he _ => ?_
  have he : (iO n)[k]? = some e := he
  rcases nB he with ⟨rfl, rfl⟩ | ⟨hk0, _, rfl⟩
  · have hkl : (pQ n).2.2.2.2.2 = mI n := rfl
    have hk1 : (pQ n).1 = 1 := rfl
    rw [hkl, hk1, gO]
    have hs : (R.jq 1 n).sat (· = ([], 1)) := mU (by kernel_rfl)
    refine ah hs (cH fun _ => ah (a := false) (ah (a := true) (mU (by kernel_rfl)) (fW rfl (cG (by simp [ilt])))) (fW rfl ?_))
    refine ah (a := .inl ()) ?_ (oE (fW (by decide) (ah (a := false) (fW (by decide) (cG rfl)) (fW rfl (cG rfl)))))
    refine mT (fun i : Int => i) n (by omega) (fun i : Int => 0 ≤ i ∧ i ≤ n) ⟨by omega, by omega⟩ (fun i h => h) ?_
    rintro i ⟨i0, i1⟩
    refine mi (fun h => ?_) fun _ => cG rfl
    rw [ka] at h
    have w : IntKind.wrap .i64 (i + 1) = i + 1 := wrap64 ⟨by omega, by omega⟩
    refine kg i0 (by rw [gO]; omega) fun e he _ => ?_
    obtain ⟨h1, rfl⟩ := nj he
    refine ah (a := 1) (fW (by simp [ilt]; omega) (cG rfl)) (kY (by omega) (by rw [jN]; omega) fun e' he' _ => ?_)
    have he' : (iO n)[((i.toNat : Int) + 1).toNat]? = some e' := he'
    rw [show ((i.toNat : Int) + 1).toNat = i.toNat + 1 by omega, rm h1] at he'
    cases he'
    exact ah (a := true) (mU (by kernel_rfl)) (fW rfl (cG ⟨w, by rw [w]; omega, by rw [w]; omega⟩))
  · exact mU (by kernel_rfl)
def nO (n : Nat) : List Int := 1 :: List.replicate n 2
theorem AW {n j : Nat} (h : j < n) : ((1 : Int) :: (List.replicate j 2 ++ List.replicate (n - j) (0 : Int))).set (j + 1) 2 = 1 :: (List.replicate (j + 1) 2 ++ List.replicate (n - (j + 1)) 0) := by
  rw [List.set_cons_succ]
  congr 1
  obtain ⟨m, hm⟩ : ∃ m, n - j = m + 1 := ⟨n - j - 1, by omega⟩
  rw [hm, show n - (j + 1) = m by omega, List.replicate_succ, List.set_append_right _ _ (by simp), List.length_replicate, Nat.sub_self, List.set_cons_zero, List.replicate_succ', List.append_assoc]
  rfl
theorem deep_n {n : Nat} (hn : n ≤ 1000) : (R.gv (iO n)).sat (· = nO n) := by
  unfold R.gv
  have hlen := jN n
  rw [hlen]
  refine cH fun _ => kv (by simp [ile]; omega) (ah (a := nO n) ?_ (cG rfl))
  refine mT (fun a : Int × List Int => a.1) (n + 1) (by omega) (fun a : Int × List Int => ∃ k : Nat, a.1 = k ∧ k ≤ n + 1 ∧ a.2 = if k = 0 then List.replicate (n + 1) 0 else nO n) ⟨0, rfl, Nat.zero_le _, by simp⟩ ?_ ?_
  · rintro ⟨x, y⟩ ⟨k, g1, g2, _⟩
    simp only at g1 ⊢; omega
  rintro ⟨x, y⟩ ⟨k, g1, g2, g3⟩
  simp only at g1 g3 ⊢
  subst g1
  have hyl : y.length = n + 1 := by rw [g3]; split <;> simp [nO]
  refine mi (fun h => ?_) fun h => ?_
  · rw [ka] at h
    have w1 : IntKind.wrap .i64 ((k : Int) + 1) = ((k + 1 : Nat) : Int) := nF ⟨by omega, by omega⟩
    have hneed : (ile 0 (k : Int) && ilt (k : Int) (y.length : Int)) = true := by simp [ile, ilt]; omega
    refine kY (by omega) (by simp [hlen]; omega) fun e he _ => kv hneed (kg (by omega) (by rw [idx0]; simp; omega) fun d hd _ => kv hneed (kg (by omega) (by rw [idx0]; simp; omega) fun d' _ _ => ?_))
    have he : (iO n)[k]? = some e := he
    rw [idx0] at hd
    rw [show (0 + (k : Int).toNat) = k by simp]
    rcases nB he with ⟨rfl, rfl⟩ | ⟨hk0, hkn, rfl⟩
    · simp only [if_true] at g3
      subst g3
      have hd0 : d = 0 := by
        have : (List.replicate (n + 1) (0 : Int))[0]? = some d := hd
        simpa using this.symm
      subst hd0
      have hkl : (pQ n).2.2.2.2.2 = mI n := rfl
      rw [hkl]
      refine ah (a := nO n) ?_ (cG ⟨w1, 1, w1, by omega, rfl⟩)
      have h0 : (List.replicate (n + 1) (0 : Int)).set 0 (qA 0 1) = 1 :: (List.replicate 0 2 ++ List.replicate (n - 0) 0) := by
        simp [List.replicate_succ, qA]
      rw [h0, gO]
      refine mT (fun a : Int × List Int => a.1) n (by omega) (fun a : Int × List Int => ∃ j : Nat, a.1 = j ∧ j ≤ n ∧ a.2 = 1 :: (List.replicate j 2 ++ List.replicate (n - j) 0)) ⟨0, rfl, Nat.zero_le _, rfl⟩ ?_ ?_
      · rintro ⟨x, y⟩ ⟨j, j1, j2, _⟩
        simp only at j1 ⊢; omega
      rintro ⟨x, y⟩ ⟨j, j1, j2, j3⟩
      simp only at j1 j3 ⊢
      subst j1 j3
      refine mi (fun hj => ?_) fun hj => cG ?_
      · rw [ka] at hj
        have w2 : IntKind.wrap .i64 ((j : Int) + 1) = ((j + 1 : Nat) : Int) := nF ⟨by omega, by omega⟩
        have hL : (((1 : Int) :: (List.replicate j 2 ++ List.replicate (n - j) (0 : Int))).length : Int) = ((n + 1 : Nat) : Int) := by simp; omega
        refine kg (by omega) (by rw [gO]; omega) fun e he _ => ?_
        obtain ⟨h1, rfl⟩ := nj he
        have hj' : (j : Int).toNat = j := by simp
        rw [hj'] at *
        refine kv (by rw [hL]; simp [ile, ilt] <;> omega) (kg (by omega) (by simp) fun d hd _ => kv (by rw [hL]; simp [ile, ilt] <;> omega) (kg (by omega) (by simp <;> omega) fun d' _ _ => cG ⟨w2, j + 1, w2, by omega, ?_⟩))
        have hd1 : d = 1 := by
          have : ((1 : Int) :: (List.replicate j 2 ++ List.replicate (n - j) (0 : Int)))[0]? = some d := by simpa using hd
          simpa using this.symm
        subst hd1
        rw [show (0 + ((j : Int) + 1).toNat) = j + 1 by omega]
        exact AW h1
      · rw [lP] at hj
        have : j = n := by omega
        subst this
        simp [nO]
    · rw [if_neg (by omega)] at g3
      subst g3
      obtain ⟨i, rfl⟩ : ∃ i, k = i + 1 := ⟨k - 1, by omega⟩
      have hd2 : d = 2 := by
        have : (nO n)[i + 1]? = some d := by simpa using hd
        simp only [nO, List.getElem?_cons_succ, List.getElem?_replicate] at this
        split at this
        · exact (Option.some.inj this).symm
        · cases this
      subst hd2
      have hs : (nO n).set (i + 1) (qA 2 1) = nO n := by
        refine nk ?_
        simp only [nO, List.getElem?_cons_succ, List.getElem?_replicate]
        rw [if_pos (by omega)]
        rfl
      rw [hs]
      refine ah (a := nO n) ?_ (cG ⟨w1, i + 1 + 1, w1, by omega, rfl⟩)
      refine mT (fun a : Int × List Int => a.1) 0 (by omega) (fun a : Int × List Int => a = (0, nO n)) rfl ?_ ?_
      · rintro _ rfl; simp
      rintro _ rfl
      exact fW rfl (cG rfl)
  · rw [lP] at h
    have : k = n + 1 := by omega
    subst this
    rw [if_neg (by omega)] at g3
    exact cG g3
theorem max_n {n : Nat} (hn : n ≤ 1000) : (R.da (nO n)).sat fun m => m ≤ 48 := by
  unfold R.da
  have hl : (nO n).length = n + 1 := by simp [nO]
  refine cH fun _ => ah (a := ()) (fW (by rw [hl, lP]; omega) (cG rfl)) (kY (by omega) (by simp [nO]) fun e he _ => ?_)
  have he : e = 1 := by
    have : (nO n)[0]? = some e := he
    simpa [nO] using this.symm
  subst he
  rw [hl]
  refine kF (R := fun m : Int => m ≤ 2) ?_ fun m hm => cG (by omega)
  refine mT (fun a : Int × Int => a.2) (n + 1) (by omega) (fun a : Int × Int => 0 ≤ a.2 ∧ a.2 ≤ ((n + 1 : Nat) : Int) ∧ a.1 ≤ 2) ⟨by omega, by omega, by omega⟩ (fun a h => ⟨h.1, h.2.1⟩) ?_
  rintro ⟨x, y⟩ ⟨y0, y1, hx⟩
  simp only at y0 y1 hx ⊢
  refine mi (fun h => ?_) fun _ => cG hx
  rw [ka] at h
  have w : IntKind.wrap .i64 (y + 1) = y + 1 := wrap64 ⟨by omega, by omega⟩
  refine kY y0 (by rw [hl]; omega) fun e he _ => ?_
  have he : (nO n)[y.toNat]? = some e := he
  have h2 : e ≤ (2 : Int) := by
    have hm : e ∈ nO n := List.mem_of_getElem? he
    simp only [nO, List.mem_cons, List.mem_replicate] at hm
    rcases hm with rfl | ⟨_, rfl⟩ <;> decide
  have h3 : qA x e ≤ 2 := by
    rw [BD]
    exact Int.max_le.mpr ⟨hx, h2⟩
  rw [w]
  exact cG ⟨rfl, by omega, by omega, h3⟩
theorem may_n {n : Nat} (hn : n ≤ 1000) : (R.kn (iO n)).sat (· = true) :=
  xP (e0 := pQ n) (by rw [jN]; omega) rfl rfl (orderN hn) (fun k e hk he => by
      rcases nB he with ⟨rfl, _⟩ | ⟨_, _, rfl⟩
      · omega
      · decide) (fun k e he => by
      rcases nB he with ⟨_, rfl⟩ | ⟨_, _, rfl⟩
      · exact Ba n
      · exact BJ) (kids_n hn) (om (deep_n hn) fun d hd => hd ▸ max_n hn)
end Go.Mach
set_option maxRecDepth 100000
namespace Go.Mach
open Res
def upN (n : Nat) : List Int := -1 :: List.replicate n 0
theorem vn (n : Nat) : (upN n).length = n + 1 := by simp [upN]
theorem zy {n : Nat} (hn : n ≤ 1000) : (R.fe (iO n)).sat (· = upN n) := by
  unfold R.fe
  have hlen := jN n
  rw [hlen]
  have h0 : List.set (List.replicate (Int.toNat ((n + 1 : Nat) : Int)) (0 : Int)) (0 + Int.toNat 0) (-1) = upN n := by
    simp [upN, List.replicate_succ]
  rw [h0]
  refine cH fun _ => kv (by simp [ile]; omega) (kv (by simp [ile, ilt] <;> omega) (kg (by omega) (by simp) fun e _ _ => ?_))
  refine ah (a := upN n) ?_ (cG rfl)
  refine mT (fun a : Int × List Int => a.1) (n + 1) (by omega) (fun a : Int × List Int => ∃ k : Nat, a.1 = k ∧ k ≤ n + 1 ∧ a.2 = upN n) ⟨0, rfl, Nat.zero_le _, rfl⟩ ?_ ?_
  · rintro ⟨x, y⟩ ⟨k, g1, g2, _⟩
    simp only at g1 ⊢; omega
  rintro ⟨x, y⟩ ⟨k, g1, g2, g3⟩
  simp only at g1 g3 ⊢
  subst g1 g3
  refine mi (fun h => ?_) fun h => cG rfl
  rw [ka] at h
  have w1 : IntKind.wrap .i64 ((k : Int) + 1) = ((k + 1 : Nat) : Int) := nF ⟨by omega, by omega⟩
  refine kY (by omega) (by simp [hlen]; omega) fun e he _ => ?_
  have he : (iO n)[k]? = some e := he
  refine ah (a := upN n) ?_ (cG ⟨w1, k + 1, w1, by omega, rfl⟩)
  rcases nB he with ⟨rfl, rfl⟩ | ⟨hk0, hkn, rfl⟩
  · have hkl : (pQ n).2.2.2.2.2 = mI n := rfl
    rw [hkl, gO]
    refine mT (fun a : Int × List Int => a.1) n (by omega) (fun a : Int × List Int => ∃ j : Nat, a.1 = j ∧ j ≤ n ∧ a.2 = upN n) ⟨0, rfl, Nat.zero_le _, rfl⟩ ?_ ?_
    · rintro ⟨x, y⟩ ⟨j, j1, j2, _⟩
      simp only at j1 ⊢; omega
    rintro ⟨x, y⟩ ⟨j, j1, j2, j3⟩
    simp only at j1 j3 ⊢
    subst j1 j3
    refine mi (fun hj => ?_) fun hj => cG rfl
    rw [ka] at hj
    have w2 : IntKind.wrap .i64 ((j : Int) + 1) = ((j + 1 : Nat) : Int) := nF ⟨by omega, by omega⟩
    refine kg (by omega) (by rw [gO]; omega) fun e he _ => ?_
    obtain ⟨h1, rfl⟩ := nj he
    rw [show (j : Int).toNat = j by simp] at *
    refine kv (by rw [vn]; simp [ile, ilt] <;> omega) (kg (by omega) (by rw [vn]; omega) fun d _ _ => cG ⟨w2, j + 1, w2, by omega, ?_⟩)
    rw [show (0 + ((j : Int) + 1).toNat) = j + 1 by omega]
    refine nk ?_
    simp only [upN, List.getElem?_cons_succ, List.getElem?_replicate]
    rw [if_pos h1]
    rfl
  · refine mT (fun a : Int × List Int => a.1) 0 (by omega) (fun a : Int × List Int => a = (0, upN n)) rfl ?_ ?_
    · rintro _ rfl; simp
    rintro _ rfl
    exact fW rfl (cG rfl)
theorem contains_nil : (R.jk []).sat (· = false) := mU (by kernel_rfl)
theorem BG {n : Nat} (hn : n ≤ 1000) {k : Nat} (hk : k ≤ n) : (R.eb (iO n) k).sat (· = []) := by
  unfold R.eb
  refine cH fun _ => kY (by omega) (by rw [jN]; omega) fun e he _ => ?_
  have he : (iO n)[k]? = some e := he
  rcases nB he with ⟨rfl, rfl⟩ | ⟨hk0, hkn, rfl⟩
  · refine ah (a := true) (ly rfl (cG rfl)) (ly rfl (ah (a := []) ?_ (cG rfl)))
    have hkl : (pQ n).2.2.2.2.2 = mI n := rfl
    rw [hkl, gO]
    refine mT (fun a : List (List UInt8) × Int => a.2) n (by omega) (fun a : List (List UInt8) × Int => ∃ j : Nat, a.2 = j ∧ j ≤ n ∧ a.1 = []) ⟨0, rfl, Nat.zero_le _, rfl⟩ ?_ ?_
    · rintro ⟨x, y⟩ ⟨j, j1, j2, _⟩
      simp only at j1 ⊢; omega
    rintro ⟨x, y⟩ ⟨j, j1, j2, j3⟩
    simp only at j1 j3 ⊢
    subst j1 j3
    refine mi (fun hj => ?_) fun hj => cG rfl
    rw [ka] at hj
    have w2 : IntKind.wrap .i64 ((j : Int) + 1) = ((j + 1 : Nat) : Int) := nF ⟨by omega, by omega⟩
    refine kg (by omega) (by rw [gO]; omega) fun e he _ => ?_
    obtain ⟨h1, rfl⟩ := nj he
    rw [show (j : Int).toNat = j by simp] at *
    refine kY (by omega) (by rw [jN]; omega) fun e' he' _ => ?_
    have he' : (iO n)[((j : Int) + 1).toNat]? = some e' := he'
    rw [show ((j : Int) + 1).toNat = j + 1 by omega, rm h1] at he'
    cases he'
    exact ah (a := false) (mU (by kernel_rfl)) (fW rfl (fW rfl (cG ⟨w2, j + 1, w2, by omega, rfl⟩)))
  · refine ah (a := false) (fW rfl (cG rfl)) (fW rfl (ah (a := false) (fW rfl (cG rfl)) (fW rfl (ah (a := false) (fW rfl (cG rfl)) (fW rfl (ah (a := false) (mU (by kernel_rfl)) (fW rfl (cG rfl))))))))
theorem BI {n : Nat} (hn : n ≤ 1000) (k : Nat) (hk : k < (iO n).length) : (R.ic (iO n) (upN n) k).sat (· = false) := by
  rw [jN] at hk
  unfold R.ic
  refine cH fun _ => kY (by omega) (by rw [jN]; omega) fun e he _ => ?_
  have he : (iO n)[k]? = some e := he
  refine ah (a := false) (ah (BG hn (by omega)) (cH fun _ => ah contains_nil (fW rfl (kY (by omega) (by rw [vn]; omega) fun u hu _ => ah (a := false) ?_ (cG rfl))))) ?_
  · unfold R.je
    refine cH fun _ => ah (a := true) ?_ (ly rfl (cG rfl))
    refine mi (fun _ => cG rfl) fun hu => kY (by omega) (by rw [jN]; omega) fun e' he' _ => ?_
    have he' : (iO n)[k]? = some e' := he'
    rw [he] at he'; cases he'
    rcases nB he with ⟨_, rfl⟩ | ⟨_, _, rfl⟩ <;> exact ly rfl (cG rfl)
  · rcases nB he with ⟨_, rfl⟩ | ⟨_, _, rfl⟩ <;> exact fW rfl (fW rfl (fW rfl (ah (a := false) (fW rfl (cG rfl)) (fW rfl (fW rfl (cG rfl))))))
theorem yp {n : Nat} (hn : n ≤ 1000) : (R.gJ (iO n)).sat (· = (0, 0)) :=
  uG (by rw [jN]; omega) (may_n hn) (zy hn) (BI hn)
end Go.Mach
set_option maxRecDepth 100000
namespace Go.Mach
open Res
def req0 : iU.den := (0, (0, (0, (0, (0, (false, (false, (0, (0, ((0, 0), ([], 0)))))))))))
def cellN : lG.den := (9, (0, ([], ([], ([], (0, (-1, ((0, ((0, 0), ((false, []), ([], 0)))), (0, (0, (0, (0, []))))))))))))
def runN (n : Nat) (fu : Int) (h : eY.den) (d j : Int) (e : kS.den) : aF.den := (iO n, ((1, (1, fu)), ([], (0, (h, (d, (j, (req0, e))))))))
def env0 : aP.den := (0, ((0, ((0, 0), ((false, []), ([], 0)))), false))
def vv (k : Int) : aT.den := (k, ([], (0, ((0, 0), ((false, []), ([], 0))))))
def np : eY.den := (1, [cellN])
theorem BS (n : Nat) (fu : Int) : (R.cE (runN n fu (1, []) 0 0 (0, [])) (-1)).sat (· = ((0, 0), runN n fu np 0 0 (0, []))) := mU (by kernel_rfl)
theorem AL (n : Nat) (fu : Int) : (R.cE ((runN n fu (0, []) 0 0 (0, [])).1, ((0, (1, fu)), (runN n fu (0, []) 0 0 (0, [])).2.2)) (-1)).sat fun x => x.1.2 = 5 ∧ x.2.2.2.2.2.2.2.2.2 = (4, []) := oX rfl ⟨rfl, rfl⟩
theorem zt {n : Nat} (hn : n ≤ 1000) (fu : Int) : (R.cz (runN n fu np 0 0 (0, [])) 0 env0).sat (· = (((0, ((0, 0), ((false, []), ([], 0)))), 0), runN n fu np 0 0 (0, []))) := by
  unfold R.cz
  refine cH fun _ => kg (by omega) (by show 0 < (iO n).length; rw [jN]; omega) fun e he _ => ?_
  have he : (iO n)[0]? = some e := he
  cases he
  refine ah (a := .inl (runN n fu np 0 0 (0, []))) ?_ (oE (cG rfl))
  have hkl : (pQ n).2.2.2.2.2 = mI n := rfl
  rw [hkl, gO]
  refine mT (fun a : Int × aF.den => a.1) n (by omega) (fun a : Int × aF.den => ∃ j : Nat, a.1 = j ∧ j ≤ n ∧ a.2 = runN n fu np 0 0 (0, [])) ⟨0, rfl, Nat.zero_le _, rfl⟩ ?_ ?_
  · rintro ⟨x, y⟩ ⟨j, j1, j2, _⟩
    simp only at j1 ⊢; omega
  rintro ⟨x, y⟩ ⟨j, j1, j2, j3⟩
  simp only at j1 j3 ⊢
  subst j1 j3
  refine mi (fun hj => ?_) fun hj => cG rfl
  rw [ka] at hj
  have w2 : IntKind.wrap .i64 ((j : Int) + 1) = ((j + 1 : Nat) : Int) := nF ⟨by omega, by omega⟩
  refine kg (by omega) (by rw [gO]; omega) fun e he _ => ?_
  obtain ⟨h1, rfl⟩ := nj he
  rw [show (j : Int).toNat = j by simp] at *
  refine kg (by omega) (by show _ < (iO n).length; rw [jN]; omega) fun e' he' _ => ?_
  have he' : (iO n)[((j : Int) + 1).toNat]? = some e' := he'
  rw [show ((j : Int) + 1).toNat = j + 1 by omega, rm h1] at he'
  cases he'
  exact ah (a := false) (mU (by kernel_rfl)) (fW rfl (fW rfl (cG ⟨w2, j + 1, w2, by omega, rfl⟩)))
theorem act_n {n j : Nat} (hn : n ≤ 1000) (h1 : j < n) (G : ay) (fu d b : Int) : (R.dt G (runN n fu np d b (0, [])) ((j : Int) + 1) env0 []).sat (· = (vv 0, runN n fu np d b (0, []))) := by
  unfold R.dt
  refine cH fun _ => kg (by omega) (by show _ < (iO n).length; rw [jN]; omega) fun e' he' _ => ?_
  have he' : (iO n)[((j : Int) + 1).toNat]? = some e' := he'
  rw [show ((j : Int) + 1).toNat = j + 1 by omega, rm h1] at he'
  cases he'
  exact mU (by kernel_rfl)
theorem xe {n j : Nat} (hn : n ≤ 1000) (h1 : j < n) (k : Nat) {fu : Int} (f0 : 0 ≤ fu) : (R.aQ (cf (k + 1)) (runN n fu np 0 j (0, [])) ((j : Int) + 1) env0 []).sat fun x =>
    if (j : Int) < fu then x = (vv 0, runN n fu np 0 ((j + 1 : Nat) : Int) (0, [])) else x = (vv 5, runN n fu np 0 j (6, [])) := by
  unfold R.aQ
  have w2 : IntKind.wrap .i64 ((j : Int) + 1) = ((j + 1 : Nat) : Int) := nF ⟨by omega, by omega⟩
  refine cH fun _ => ?_
  by_cases hf : (j : Int) < fu
  · simp only [if_pos hf]
    refine ah (a := (true, runN n fu np 1 ((j + 1 : Nat) : Int) (0, []))) ?_ (cH fun _ => fW rfl (ah (act_n hn h1 _ fu 1 _) (cH fun _ => cG rfl)))
    unfold R.cc
    refine cH fun _ => fW rfl (fW ?_ (cG ?_))
    · show ile fu (j : Int) = false
      rw [pJ]; exact hf
    · rw [← w2]; rfl
  · simp only [if_neg hf]
    refine ah (a := (false, runN n fu np 0 j (6, []))) ?_ (cH fun _ => ly rfl (cG rfl))
    unfold R.cc
    refine cH fun _ => fW rfl (ly ?_ (ah (mU (a := ((5 : Int), runN n fu np 0 j (6, []))) (by kernel_rfl)) (cH fun _ => cG rfl)))
    show ile fu (j : Int) = true
    rw [rh]; omega
theorem list_n {n : Nat} (hn : n ≤ 1000) (k : Nat) {fu : Int} (f0 : 0 ≤ fu) : (R.cP (cf (k + 2)) (runN n fu np 0 0 (0, [])) (mI n) env0).sat fun x =>
    if (n : Int) ≤ fu then x = (vv 0, runN n fu np 0 n (0, [])) else x.1 = vv 5 ∧ x.2.2.2.2.2.2.2.2.2 = (6, []) := by
  unfold R.cP
  rw [gO]
  refine cH fun _ => kF (R := fun s : aF.den ⊕ (aF.den × aT.den) => if (n : Int) ≤ fu then s = .inl (runN n fu np 0 n (0, [])) else ∃ j, s = .inr (runN n fu np 0 j (6, []), vv 5)) ?_ ?_
  · refine mT (fun a : Int × aF.den => a.1) n (by omega) (fun a : Int × aF.den => ∃ j : Nat, a.1 = j ∧ j ≤ n ∧ (j : Int) ≤ fu ∧ a.2 = runN n fu np 0 j (0, [])) ⟨0, rfl, Nat.zero_le _, f0, rfl⟩ ?_ ?_
    · rintro ⟨x, y⟩ ⟨j, j1, j2, _⟩
      simp only at j1 ⊢; omega
    rintro ⟨x, y⟩ ⟨j, j1, j2, j3, j4⟩
    simp only at j1 j4 ⊢
    subst j1 j4
    refine mi (fun hj => ?_) fun hj => ?_
    · rw [ka] at hj
      have w2 : IntKind.wrap .i64 ((j : Int) + 1) = ((j + 1 : Nat) : Int) := nF ⟨by omega, by omega⟩
      refine kg (by omega) (by rw [gO]; omega) fun e he _ => ?_
      obtain ⟨h1, rfl⟩ := nj he
      rw [show (j : Int).toNat = j by simp] at *
      refine kF (xe hn h1 k f0) fun x hx => cH fun _ => ?_
      by_cases hf : (j : Int) < fu
      · rw [if_pos hf] at hx
        subst hx
        exact fW rfl (cG ⟨w2, j + 1, w2, by omega, by omega, rfl⟩)
      · rw [if_neg hf] at hx
        subst hx
        refine ly rfl (cG ?_)
        show if (n : Int) ≤ fu then _ else _
        rw [if_neg (by omega)]
        exact ⟨_, rfl⟩
    · rw [lP] at hj
      have : j = n := by omega
      subst this
      refine cG ?_
      show if (j : Int) ≤ fu then _ else _
      rw [if_pos j3]
  · intro s hs
    by_cases hf : (n : Int) ≤ fu
    · rw [if_pos hf] at hs
      subst hs
      refine oE (cG ?_)
      rw [if_pos hf]; rfl
    · rw [if_neg hf] at hs
      obtain ⟨j, rfl⟩ := hs
      refine Bi (cG ?_)
      rw [if_neg hf]
      exact ⟨rfl, rfl⟩
end Go.Mach
set_option maxRecDepth 100000
namespace Go.Mach
open Res
theorem zp : ∃ k, fuel = k + 3 := ⟨2 ^ 70 - 3, by decide⟩
theorem An {n : Nat} (hn : n ≤ 1000) {fu : Int} (f0 : 0 ≤ fu) : (R.gp (iO n) (1, (1, fu)) []).sat fun x => x.2.1 = if (n : Int) ≤ fu then 1 else 6 := by
  unfold R.gp
  refine cH fun _ => ah (a := (1, [])) (mU rfl) (cH fun _ => ?_)
  refine kF (R := fun x => if (n : Int) ≤ fu then x = (vv 0, runN n fu np 0 n (0, [])) else x.1 = vv 5 ∧ x.2.2.2.2.2.2.2.2.2 = (6, [])) ?_ ?_
  · unfold R.eR
    refine cH fun _ => ah (BS n fu) (cH fun _ => fW rfl (ah (zt hn fu) (cH fun _ => fW rfl ?_)))
    refine kg (by omega) (by show 0 < (iO n).length; rw [jN]; omega) fun e he _ => ?_
    have he : (iO n)[0]? = some e := he
    cases he
    obtain ⟨k, hk⟩ := zp
    rw [hk]
    refine kF (list_n hn k f0) fun x hx => cH fun _ => cG hx
  · rintro ⟨o, r⟩ hx
    refine cH fun _ => ?_
    by_cases hf : (n : Int) ≤ fu
    · rw [if_pos hf] at hx ⊢
      cases hx
      exact fW rfl (fW rfl (cG rfl))
    · rw [if_neg hf] at hx ⊢
      obtain ⟨rfl, h2⟩ := hx
      have h2 : r.2.2.2.2.2.2.2.2 = (6, []) := h2
      refine ly rfl (cG ?_)
      show r.2.2.2.2.2.2.2.2.1 = 6
      rw [h2]
theorem zB (n : Nat) (fu : Int) : (R.gp (iO n) (0, (1, fu)) []).sat fun x => x.2.1 = 4 := by
  unfold R.gp
  refine cH fun _ => ah (a := (0, [])) (mU rfl) (cH fun _ => ?_)
  refine kF (R := fun x => x.1 = vv 5 ∧ x.2.2.2.2.2.2.2.2.2 = (4, [])) ?_ ?_
  · unfold R.eR
    refine cH fun _ => kF (AL n fu) fun x hx => cH fun _ => ?_
    obtain ⟨h1, h2⟩ := hx
    obtain ⟨⟨a, b⟩, r⟩ := x
    simp only at h1 h2
    subst h1
    exact ly rfl (cG ⟨rfl, h2⟩)
  · rintro ⟨o, r⟩ ⟨rfl, h2⟩
    have h2 : r.2.2.2.2.2.2.2.2 = (4, []) := h2
    refine cH fun _ => ly rfl (cG ?_)
    show r.2.2.2.2.2.2.2.2.1 = 4
    rw [h2]
theorem next_n {n : Nat} (hn : n ≤ 1000) {fu : Int} (f0 : 0 ≤ fu) (f1 : fu ≤ 3000) : (R.gy (iO n) (1, (1, fu)) []).sat fun x => x.2.1 = if (n : Int) ≤ fu then 1 else 6 := by
  unfold R.gy
  refine cH fun _ => ah (yp hn) (cH fun _ => ah (a := false) (fW rfl (ah (a := true) ?_ (cG rfl))) (fW rfl (kF (An hn f0) fun x hx => cH fun _ => cG hx)))
  unfold R.lj
  exact cH fun _ => ly rfl (ly rfl (ly rfl (ly rfl (ly (by simpa [ile] using f0) (cG (by simp [ile]; omega))))))
theorem BO {n : Nat} (hn : n ≤ 1000) {fu : Int} (f0 : 0 ≤ fu) (f1 : fu ≤ 3000) : (R.gy (iO n) (0, (1, fu)) []).sat fun x => x.2.1 = 4 := by
  unfold R.gy
  refine cH fun _ => ah (yp hn) (cH fun _ => ah (a := false) (fW rfl (ah (a := true) ?_ (cG rfl))) (fW rfl (kF (zB n fu) fun x hx => cH fun _ => cG hx)))
  unfold R.lj
  exact cH fun _ => ly rfl (ly rfl (ly rfl (ly rfl (ly (by simpa [ile] using f0) (cG (by simp [ile]; omega))))))
theorem BW {n : Nat} (hn : n ≤ 1000) {f : List p8 × Int → Res (Step (List p8 × Int) (List p8))} (hf : ∀ k : Nat, k < n → (f (iO k, (k : Int))).sat (· = .next (iO (k + 1), ((k + 1 : Nat) : Int)))) (hd : (f (iO n, (n : Int))).sat (· = .done (iO n))) : (loop f fuel (iO 0, 0)).sat (· = iO n) := by
  refine mT (fun a : List p8 × Int => a.2) n (by omega) (fun a : List p8 × Int => ∃ k : Nat, a = (iO k, (k : Int)) ∧ k ≤ n) ⟨0, rfl, Nat.zero_le _⟩ ?_ ?_
  · rintro _ ⟨k, rfl, g2⟩
    simp only; omega
  rintro _ ⟨k, rfl, g2⟩
  by_cases h : k < n
  · refine om (hf k h) ?_
    rintro _ rfl
    exact ⟨by simp, k + 1, rfl, by omega⟩
  · have : k = n := by omega
    subst this
    refine om hd ?_
    rintro _ rfl
    rfl
theorem ye (n : Nat) : (pQ n).2.2.2.2.2 ++ [(n : Int) + 1] = mI (n + 1) := by
  show mI n ++ _ = _
  simp [mI, List.range_succ]
theorem AB : ∀ F : Res Bool, F = R.eJ → F.sat (· = true) := by
  intro F h
  have h2 := vK
  rw [← h] at h2
  exact Res.oX h2 rfl
theorem wF (n fuel_1 : Int) : AZ (R.ei n fuel_1) (· = true) := by
  constructor
  unfold R.ei
  have firstF := AB
  generalize hF : R.eJ = F at firstF ⊢
  have rz := firstF _ rfl
  refine cH fun _ => ah rz (fW rfl ?_)
  by_cases hc : 0 ≤ n ∧ n ≤ 1000 ∧ 0 ≤ fuel_1 ∧ fuel_1 ≤ 3000
  · obtain ⟨n0, n1, f0, f1⟩ := hc
    obtain ⟨n, rfl⟩ : ∃ k : Nat, n = k := ⟨n.toNat, by omega⟩
    have hn : n ≤ 1000 := by omega
    refine ah (a := false) (fW (by rw [lP]; omega) (fW (by rw [lP]; omega) (fW (by rw [lP]; omega) (cG (by rw [lP]; omega))))) (fW rfl ?_)
    refine ah (a := iO n) ?_ ?_
    · refine BW hn (fun k hk => ?_) ?_
      · refine ly (by rw [ka]; omega) (kY (by omega) (by simp [iO]) fun e he _ => ?_)
        have he : (iO k)[0]? = some e := he
        cases he
        have w1 : IntKind.wrap .i64 ((k : Int) + 1) = (k : Int) + 1 := nF ⟨by omega, by omega⟩
        have hl : (pQ k).2.2.2.2.2.length = k := gO k
        refine kv rfl (kv ?_ (kv rfl (kv rfl (kv ?_ (cG ?_)))))
        · rw [decide_eq_true_eq, hl]; simp; omega
        · rw [decide_eq_true_eq, List.length_set]; change ((iO k).length + 1) * 120 ≤ 2 ^ 47; rw [jN]; omega
        · rw [w1, ye]
          simp only [iO, List.replicate_succ']
          rfl
      · exact fW (by rw [lP]; omega) (cG rfl)
    · refine kF (next_n hn f0 f1) fun x hx => cH fun _ => kF (BO hn f0 f1) fun y hy => cH fun _ => ah rz (ly rfl ?_)
      by_cases hf : (n : Int) ≤ fuel_1
      · rw [if_pos hf] at hx
        rw [hx, hy]
        refine ly (by rw [show ile (n : Int) fuel_1 = true by rw [rh]; exact hf]; rfl) (ly (by rw [show ilt fuel_1 (n : Int) = false by rw [lP]; exact hf]; rfl) (cG rfl))
      · rw [if_neg hf] at hx
        rw [hx, hy]
        refine ly (by rw [show ile (n : Int) fuel_1 = false by rw [pJ]; omega]; rfl) (ly (by rw [show ilt fuel_1 (n : Int) = true by rw [ka]; omega]; rfl) (cG rfl))
  · refine ah (a := true) ?_ (ly rfl (ah rz (cG rfl)))
    refine mi (fun _ => cG rfl) fun h1 => mi (fun _ => cG rfl) fun h2 => mi (fun _ => cG rfl) fun h3 => cG ?_
    rw [lP] at h1 h2 h3
    rw [ka]
    omega
end Go.Mach
namespace Go.Mach
theorem yP {P : Program} {c : OpenClaim} (h : P.funcs.any Func.goes = false) (hs : c.start = .entering) : false = c.goesBy P := by
  have h1 : ∀ g : Nat, (P.funcs[g]?).any Func.goes = false := fun g => by
    cases hg : P.funcs[g]? with
    | none => rfl
    | some fn => simpa using (Array.any_eq_false'.1 h) fn (Array.mem_of_getElem? hg)
  have h2 : ∀ f, P.goes f = false := fun f => by
    unfold Program.goes
    rw [h, Bool.and_false, Bool.or_false, List.any_eq_false]
    exact fun g _ => by rw [h1 g]; decide
  have h3 : P.goesFrom c.func = false := by
    unfold Program.goesFrom
    cases P.funcNamed c.func with
    | none => rfl
    | some f => exact h2 f
  unfold OpenClaim.goesBy Program.goesAt
  rw [h3, hs]
  rfl
end Go.Mach
