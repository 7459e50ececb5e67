/-
  Proved here: any log of at most 40 events and 20000 bytes is told by the lines that the document tells (renlaw26.ScriptEvents), where what is read is of bulk at most 1048576 and the library's variables are laid as the program's text lays them.
  Part Law of the texts. By an AI agent; no person has read it.
-/
import Derived.Test.YtediejlokhnldaaDoorOks
import Derived.Lib.ItoaLen
import Derived.Lib.AtoiAllCases
import Derived.Test.YtediejlokhnldaaDoorCards
import Derived.Test.YtediejlokhnldaaDoorTie
import Derived.WalkKit
import Derived.ProofKit
import Derived.OpenShut
import Derived.Deep.DeepHandedRow
import Derived.Lib.LaidTab
import Derived.Stop.LaidErr
import Derived.Shelf.Vars
set_option linter.all false
set_option linter.deprecated false
/-
  Numbers as digits, there and back.
-/
set_option maxRecDepth 10000
namespace Go.Mach
open Res Lib

/-- A digit. -/
def dig (d : Nat) : UInt8 := UInt8.ofNat (48 + d)
theorem dig_nat {d : Nat} (h : d < 10) : (dig d).toNat = 48 + d := by
  unfold dig
  rw [UInt8.toNat_ofNat']
  omega
theorem dec_small {u : Nat} (h : u < 10) : decDigits u = [dig u] := by rw [decDigits, dif_pos h]; rfl
theorem dec_big {u : Nat} (h : ¬ u < 10) : decDigits u = decDigits (u / 10) ++ [dig (u % 10)] := by rw [decDigits, dif_neg h]; rfl

theorem dec_digit (u : Nat) : ∀ c ∈ decDigits u, 48 ≤ c.toNat ∧ c.toNat ≤ 57 := by
  induction u using Nat.strongRecOn with
  | _ u ih =>
    by_cases h : u < 10
    · rw [dec_small h]
      intro c hc
      simp only [List.mem_singleton] at hc
      subst hc
      rw [dig_nat h]; omega
    · rw [dec_big h]
      intro c hc
      rcases List.mem_append.1 hc with hc | hc
      · exact ih (u / 10) (by omega) c hc
      · simp only [List.mem_singleton] at hc
        subst hc
        rw [dig_nat (by omega)]; omega
theorem dec_ne (u : Nat) : decDigits u ≠ [] := by
  by_cases h : u < 10
  · rw [dec_small h]; simp
  · rw [dec_big h]; simp

theorem parse_append : ∀ (l : List UInt8) (acc : Nat) (r : List UInt8), parseUint10 acc (l ++ r) = match parseUint10 acc l with
    | .ok a => parseUint10 a r
    | e => e
  | [], acc, r => rfl
  | c :: l, acc, r => by
    simp only [List.cons_append, parseUint10]
    split
    · split
      · rfl
      · split
        · rfl
        · exact parse_append l _ r
    · rfl
theorem parse_dec (u : Nat) (hu : u < 18446744073709551616) : parseUint10 0 (decDigits u) = .ok u := by
  induction u using Nat.strongRecOn with
  | _ u ih =>
    by_cases h : u < 10
    · rw [dec_small h]
      simp only [parseUint10, dig_nat h]
      rw [if_pos (by omega), if_neg (by omega), if_neg (by omega)]
      congr 1; omega
    · rw [dec_big h, parse_append, ih (u / 10) (by omega) (by omega)]
      simp only [parseUint10, dig_nat (show u % 10 < 10 by omega)]
      rw [if_pos (by omega), if_neg (by omega), if_neg (by omega)]
      congr 1; omega

theorem itoa_pos (u : Nat) : itoa (u : Int) = decDigits u := by unfold itoa; rw [if_neg (by omega)]; simp
theorem itoa_ng (u : Nat) (h : 1 ≤ u) : itoa (-(u : Int)) = 45 :: decDigits u := by unfold itoa; rw [if_pos (by omega)]; simp

theorem atoi_itoa {v : Int} (h0 : -9223372036854775808 ≤ v) (h1 : v < 9223372036854775808) : atoiAll (itoa v) = .ok v := by
  by_cases hn : v < 0
  · obtain ⟨u, rfl⟩ : ∃ u : Nat, v = -(u : Int) := ⟨v.natAbs, by omega⟩
    rw [itoa_ng u (by omega), atoiAll_minus]
    unfold parseMag
    rw [if_neg (dec_ne u), parse_dec u (by omega)]
    simp only [signed]
    rw [if_neg (by omega)]
  · obtain ⟨u, rfl⟩ : ∃ u : Nat, v = (u : Int) := ⟨v.toNat, by omega⟩
    rw [itoa_pos]
    have hd := dec_digit u
    have he := dec_ne u
    have hp := parse_dec u (by omega)
    revert hd he hp
    generalize decDigits u = l
    intro hd he hp
    cases l with
    | nil => exact absurd rfl he
    | cons c r =>
      have hc := hd c List.mem_cons_self
      rw [atoiAll_plain c r (by omega) (by omega)]
      unfold parseMag
      rw [if_neg he, hp]
      simp only [signless]
      rw [if_neg (by omega)]

/-- The number that is written so, if there is one. -/
def numF (s : List UInt8) : Option Int :=
  match atoiAll s with
  | .ok v => if itoa v = s then some v else none
  | _ => none
theorem numF_itoa {v : Int} (h0 : -9223372036854775808 ≤ v) (h1 : v < 9223372036854775808) : numF (itoa v) = some v := by
  unfold numF
  rw [atoi_itoa h0 h1]
  simp
theorem numF_some {s : List UInt8} {v : Int} (h : numF s = some v) : itoa v = s ∧ -9223372036854775808 ≤ v ∧ v < 9223372036854775808 := by
  unfold numF at h
  split at h
  · rename_i n hn
    obtain ⟨b1, b2⟩ := atoiAll_bounds hn
    split at h
    · rename_i he
      cases h
      exact ⟨he, b1, by omega⟩
    · cases h
  · cases h

/-! ### The document's digits -/

theorem wrap8 {n : Int} (h : 0 ≤ n ∧ n < 256) : IntKind.wrap .u8 n = n := by
  simp [IntKind.wrap, IntKind.signed, IntKind.bits]
  omega
theorem byts_dig {d : Int} (h0 : 0 ≤ d) (h1 : d < 10) : byts [IntKind.wrap .u8 (IntKind.wrap .i64 (48 + d))] = [dig d.toNat] := by
  rw [wrap64 ⟨by omega, by omega⟩, wrap8 ⟨by omega, by omega⟩]
  unfold byts dig
  simp only [List.map_cons, List.map_nil]
  congr 2; omega
theorem byts_dig' {d : Int} (h0 : -10 < d) (h1 : d ≤ 0) : byts [IntKind.wrap .u8 (IntKind.wrap .i64 (48 - d))] = [dig (-d).toNat] := by
  have := byts_dig (d := -d) (by omega) (by omega)
  rw [← this, Int.sub_eq_add_neg]

theorem nDigits_pow (u : Nat) (h : 1 ≤ u) : 10 ^ (nDigits u - 1) ≤ u := by
  induction u using Nat.strongRecOn with
  | _ u ih =>
    by_cases h10 : u < 10
    · rw [nDigits_small h10]; simpa using h
    · have h1 := ih (u / 10) (by omega) (by omega)
      have h2 := nDigits_pos (u / 10)
      rw [nDigits_big h10]
      have h3 : nDigits (u / 10) + 1 - 1 = (nDigits (u / 10) - 1) + 1 := by omega
      rw [h3, Nat.pow_succ]
      omega
theorem nDigits_le19 (u : Nat) (h : u < 10000000000000000000) : nDigits u ≤ 19 := by
  rcases Nat.eq_zero_or_pos u with rfl | h1
  · rw [nDigits_small (by omega)]; omega
  · have h2 := nDigits_pow u h1
    apply Classical.byContradiction
    intro hc
    have h3 : 10 ^ 19 ≤ 10 ^ (nDigits u - 1) := Nat.pow_le_pow_right (by decide) (by omega)
    omega

theorem itoa_len {n : Int} (h0 : -9223372036854775808 ≤ n) (h1 : n < 9223372036854775808) : (itoa n).length ≤ 21 := itoa_length_le n h0 (by omega)
theorem strOk_small {n : Nat} (h : n ≤ 1000000) : strOk n = true := by
  simp only [strOk, decide_eq_true_eq]; omega

theorem tdiv_nat (u : Nat) : Int.tdiv (u : Int) 10 = ((u / 10 : Nat) : Int) := by
  rw [Int.tdiv_eq_ediv_of_nonneg (by omega)]; rfl
theorem tmod_nat (u : Nat) : Int.tmod (u : Int) 10 = ((u % 10 : Nat) : Int) := by
  rw [Int.tmod_eq_emod_of_nonneg (by omega)]; rfl
theorem tdiv_neg (u : Nat) : Int.tdiv (-(u : Int)) 10 = -((u / 10 : Nat) : Int) := by rw [Int.neg_tdiv, tdiv_nat]
theorem tmod_neg (u : Nat) : Int.tmod (-(u : Int)) 10 = -((u % 10 : Nat) : Int) := by rw [Int.neg_tmod, tmod_nat]

theorem dec_pos : ∀ (fu u : Nat), nDigits u ≤ fu → u < 9223372036854775808 → (R.renref_Dec fu u).sat (· = decDigits u)
  | 0, u, h, _ => by have := nDigits_pos u; omega
  | fu + 1, u, h, hu => by
    unfold R.renref_Dec
    refine law_given fun _ => law_f (by rw [ilt_false]; omega) ?_
    by_cases h10 : u < 10
    · refine law_t (by rw [ilt_true]; omega) ?_
      rw [byts_dig (by omega) (by omega), dec_small h10]
      exact law_ok (by simp)
    · refine law_f (by rw [ilt_false]; omega) (law_need rfl ?_)
      rw [tdiv_nat, tmod_nat, wrap64 ⟨by omega, by omega⟩, byts_dig (by omega) (by omega)]
      have hn := nDigits_big h10
      refine law_bind_eq (dec_pos fu (u / 10) (by omega) (by omega)) (law_given fun _ => law_need rfl (law_need ?_ (law_ok ?_)))
      · refine strOk_small ?_
        rw [decDigits_length]
        have := nDigits_le19 (u / 10) (by omega)
        simp; omega
      · rw [dec_big h10]; simp only [Int.toNat_natCast]

theorem dec_ok {n : Int} (h0 : -9223372036854775808 ≤ n) (h1 : n < 9223372036854775808) : (R.renref_Dec fuel n).sat (· = itoa n) := by
  have hf : ∃ k, fuel = k + 1 ∧ 20 ≤ k := ⟨2 ^ 70 - 1, by unfold fuel; omega, by omega⟩
  obtain ⟨k, hk, h20⟩ := hf
  rw [hk]
  clear hk
  by_cases hn : n < 0
  · obtain ⟨u, rfl⟩ : ∃ u : Nat, n = -(u : Int) := ⟨n.natAbs, by omega⟩
    have hd := nDigits_le19 (u / 10) (by omega)
    rw [itoa_ng u (by omega)]
    unfold R.renref_Dec
    refine law_given fun _ => law_t (by rw [ilt_true]; omega) (law_need rfl ?_)
    rw [tdiv_neg, tmod_neg, wrap64 ⟨by omega, by omega⟩, byts_dig' (by omega) (by omega)]
    refine law_br (fun hz => ?_) fun hz => ?_
    · have hz : u / 10 = 0 := by simp at hz; omega
      refine law_need rfl (law_need (by rfl) (law_ok ?_))
      rw [dec_small (u := u) (by omega), show u % 10 = u by omega]; simp
    · have hz : ¬ u < 10 := by
        simp at hz; omega
      rw [show (0 : Int) - -((u / 10 : Nat) : Int) = ((u / 10 : Nat) : Int) by omega, wrap64 ⟨by omega, by omega⟩]
      refine law_need rfl (law_bind_eq (dec_pos k (u / 10) (by omega) (by omega)) (law_given fun _ => law_need ?_ (law_need rfl (law_need ?_ (law_ok ?_)))))
      · refine strOk_small ?_
        rw [decDigits_length]; simp; omega
      · refine strOk_small ?_
        rw [List.length_append, decDigits_length]; simp; omega
      · rw [dec_big hz]; simp
        rw [show ((u : Int) % 10).toNat = u % 10 by omega]
  · obtain ⟨u, rfl⟩ : ∃ u : Nat, n = (u : Int) := ⟨n.toNat, by omega⟩
    rw [itoa_pos]
    exact dec_pos (k + 1) u (by have := nDigits_le19 u (by omega); omega) (by omega)
end Go.Mach

/-
  The document's numbers: the loop.
-/
set_option maxRecDepth 10000
namespace Go.Mach
open Res Lib

/-- What digits spell. -/
def valF (l : List UInt8) : Nat := l.foldl (fun a c => 10 * a + (c.toNat - 48)) 0
theorem val_append (l r : List UInt8) : valF (l ++ r) = r.foldl (fun a c => 10 * a + (c.toNat - 48)) (valF l) := by unfold valF; rw [List.foldl_append]
theorem val_snoc (l : List UInt8) (c : UInt8) : valF (l ++ [c]) = 10 * valF l + (c.toNat - 48) := by rw [val_append]; rfl
theorem val_le (r : List UInt8) : ∀ a : Nat, a ≤ r.foldl (fun a c => 10 * a + (c.toNat - 48)) a := by
  induction r with
  | nil => intro a; exact Nat.le_refl a
  | cons c r ih => intro a; exact Nat.le_trans (by omega) (ih (10 * a + (c.toNat - 48)))
theorem val_take_le (l : List UInt8) (i : Nat) : valF (l.take i) ≤ valF l := by
  have h := val_append (l.take i) (l.drop i)
  rw [List.take_append_drop] at h
  rw [h]; exact val_le _ _
theorem val_take_succ {l : List UInt8} {i : Nat} {c : UInt8} (h : l[i]? = some c) : valF (l.take (i + 1)) = 10 * valF (l.take i) + (c.toNat - 48) := by
  rw [List.take_add_one, h, Option.toList_some, val_snoc]
theorem val_dec (u : Nat) : valF (decDigits u) = u := by
  induction u using Nat.strongRecOn with
  | _ u ih =>
    by_cases h : u < 10
    · rw [dec_small h]
      show 10 * 0 + ((dig u).toNat - 48) = u
      rw [dig_nat h]; omega
    · rw [dec_big h, val_snoc, ih (u / 10) (by omega), dig_nat (by omega)]
      omega

theorem nums_at {s : List UInt8} {i : Nat} {c : UInt8} (h : s[i]? = some c) : (nums s)[i]? = some (c.toNat : Int) := by unfold nums; rw [List.getElem?_map, h]; rfl
theorem nums_inv {s : List UInt8} {i : Nat} {x : Int} (h : (nums s)[i]? = some x) : ∃ c, s[i]? = some c ∧ x = (c.toNat : Int) := by
  unfold nums at h
  rw [List.getElem?_map] at h
  cases hc : s[i]? with
  | none => rw [hc] at h; cases h
  | some c => rw [hc] at h; cases h; exact ⟨c, rfl, rfl⟩
theorem nums_len (s : List UInt8) : (nums s).length = s.length := by unfold nums; simp

theorem wrap_range (n : Int) : -9223372036854775808 ≤ IntKind.wrap .i64 n ∧ IntKind.wrap .i64 n < 9223372036854775808 := by
  simp [IntKind.wrap, IntKind.signed, IntKind.bits]
  omega

/-- The loop over the digits. -/
theorem number_loop (d : List UInt8) (hl : d.length ≤ 19) :
    (Res.loop (α := (Int × Int)) (β := (Int ⊕ (Int × Bool))) (fun n5 => Res.br (ilt n5.2 (d.length : Int)) (Res.idx (.int .u8) (nums d) n5.2 fun e6 => Res.bind (α := Bool) (Res.br (ilt (IntKind.wrap .i64 ((IntKind.wrap .i64 e6) - 48)) 0) (Res.ok (true)) (Res.br (ilt 9 (IntKind.wrap .i64 ((IntKind.wrap .i64 e6) - 48))) (Res.ok (true)) (Res.need (!(10 == 0)) (Res.ok ((ilt n5.1 (IntKind.wrap .i64 (Int.tdiv (IntKind.wrap .i64 ((-9223372036854775808) + (IntKind.wrap .i64 ((IntKind.wrap .i64 e6) - 48)))) 10)))))))) fun x7 => Res.br x7 (Res.ok (.done (.inr (0, false)))) (Res.ok (.next ((IntKind.wrap .i64 ((IntKind.wrap .i64 (10 * n5.1)) - (IntKind.wrap .i64 ((IntKind.wrap .i64 e6) - 48))), IntKind.wrap .i64 (n5.2 + 1)))))) (Res.ok (.done (.inl n5.1)))) fuel (0, 0)).sat
    fun z => match z with
      | .inl n => (-9223372036854775808 ≤ n ∧ n < 9223372036854775808) ∧ ∀ m, d = decDigits m → m ≤ 9223372036854775808 → n = -(m : Int)
      | .inr z => z = (0, false) ∧ ∀ m, d = decDigits m → m ≤ 9223372036854775808 → False := by
  refine law_for (fun a : Int × Int => a.2) d.length (by omega) (fun a : Int × Int => (0 ≤ a.2 ∧ a.2 ≤ d.length) ∧ (-9223372036854775808 ≤ a.1 ∧ a.1 < 9223372036854775808) ∧ ∀ m, d = decDigits m → m ≤ 9223372036854775808 → a.1 = -(valF (d.take a.2.toNat) : Int))
    ⟨⟨by omega, by omega⟩, ⟨by omega, by omega⟩, fun m _ _ => rfl⟩ (fun a h => h.1) ?_
  rintro ⟨n, i⟩ ⟨⟨i0, i1⟩, ⟨n0, n1⟩, hI⟩
  simp only at i0 i1 n0 n1 hI ⊢
  refine law_br (fun hi => ?_) fun hi => ?_
  · rw [ilt_true] at hi
    have hlt : i.toNat < d.length := by omega
    refine law_idx i0 (by rw [nums_len]; exact hlt) fun x hx _ => ?_
    obtain ⟨c, hc, rfl⟩ := nums_inv hx
    have hc256 := UInt8.toNat_lt c
    have e1 : IntKind.wrap .i64 (IntKind.wrap .i64 ((c.toNat : Int)) - 48) = (c.toNat : Int) - 48 := by rw [wrap64 (n := (c.toNat : Int)) ⟨by omega, by omega⟩, wrap64 ⟨by omega, by omega⟩]
    simp only [e1]
    have e2 : IntKind.wrap .i64 (-9223372036854775808 + ((c.toNat : Int) - 48)) = IntKind.wrap .i64 (-9223372036854775808 + ((c.toNat : Int) - 48)) := rfl
    refine law_bind' (R := fun b => (b = false → 48 ≤ c.toNat ∧ c.toNat ≤ 57) ∧ (b = true → ∀ m, d = decDigits m → m ≤ 9223372036854775808 → False)) ?_ fun b hb => law_br (fun hbt => ?_) fun hbf => ?_
    · refine law_br (fun h => ?_) fun h => law_br (fun h' => ?_) fun h' => law_need rfl (law_ok ?_)
      · rw [ilt_true] at h
        refine law_ok ⟨fun hf => (by cases hf), fun _ m hm _ => ?_⟩
        have := dec_digit m c (hm ▸ List.mem_of_getElem? hc)
        omega
      · rw [ilt_true] at h'
        refine law_ok ⟨fun hf => (by cases hf), fun _ m hm _ => ?_⟩
        have := dec_digit m c (hm ▸ List.mem_of_getElem? hc)
        omega
      · rw [ilt_false] at h h'
        refine ⟨fun _ => by omega, fun hb m hm hle => ?_⟩
        have hn := hI m hm hle
        have hs := val_take_succ hc
        have hle2 := val_take_le d (i.toNat + 1)
        rw [hm, val_dec, ← hm] at hle2
        rw [wrap64 (n := -9223372036854775808 + ((c.toNat : Int) - 48)) ⟨by omega, by omega⟩] at hb
        obtain ⟨t, ht, ht2⟩ : ∃ t : Nat, ((-9223372036854775808 : Int) + ((c.toNat : Int) - 48)) = -(t : Int) ∧ t = 9223372036854775808 - (c.toNat - 48) := ⟨9223372036854775808 - (c.toNat - 48), by omega, rfl⟩
        rw [ht, tdiv_neg, wrap64 ⟨by omega, by omega⟩, ilt_true] at hb
        omega
    · exact law_ok ⟨rfl, hb.2 hbt⟩
    · obtain ⟨hd1, hd2⟩ := hb.1 hbf
      refine law_ok ⟨by simp only [wrap64 (n := i + 1) ⟨by omega, by omega⟩], ⟨by simp only [wrap64 (n := i + 1) ⟨by omega, by omega⟩]; omega, by simp only [wrap64 (n := i + 1) ⟨by omega, by omega⟩]; omega⟩, wrap_range _, fun m hm hle => ?_⟩
      have hn := hI m hm hle
      have hs := val_take_succ hc
      have hle2 := val_take_le d (i.toNat + 1)
      rw [hm, val_dec, ← hm] at hle2
      simp only [wrap64 (n := i + 1) ⟨by omega, by omega⟩]
      rw [show (i + 1).toNat = i.toNat + 1 by omega, hs, wrap64 (n := 10 * n) ⟨by omega, by omega⟩, wrap64 ⟨by omega, by omega⟩]
      omega
  · rw [ilt_false] at hi
    refine law_ok ⟨⟨n0, n1⟩, fun m hm hle => ?_⟩
    rw [hI m hm hle, List.take_of_length_le (by omega), hm, val_dec]

theorem number_ok {s : List UInt8} : (R.renref24_number s).sat fun r => match numF s with
    | some v => r = (v, true)
    | none => r.2 = false := by
  unfold R.renref24_number
  refine law_given fun _ => ?_
  -- the sign
  refine law_bind' (R := fun b => b = decide (s.head? = some 45)) ?_ fun b hb => ?_
  · cases s with
    | nil => exact law_f rfl (law_ok (by simp))
    | cons c r =>
      refine law_t (by rw [ilt_true]; simp <;> omega) (law_idx (by omega) (by simp [nums]) fun x hx _ => law_ok ?_)
      obtain ⟨c', hc, rfl⟩ := nums_inv hx
      have hc : c = c' := by simpa using hc
      subst hc
      rw [Bool.eq_iff_iff]
      simp only [beq_iff_eq, List.head?_cons, Option.some.injEq, decide_eq_true_eq]
      constructor
      · intro h
        have h : (c.toNat : Int) = 45 := h
        exact UInt8.toNat_inj.1 (by show c.toNat = 45; omega)
      · rintro rfl; rfl
  refine law_bind' (R := fun d => d = if b = true then s.drop 1 else s) ?_ fun d hd => ?_
  · refine law_br (fun h => ?_) fun h => ?_
    · subst hb
      rw [decide_eq_true_eq] at h
      have : 1 ≤ s.length := by cases s with
        | nil => cases h
        | cons c r => simp
      exact law_need (by simp [ile]; omega) (law_ok (by simp [h]))
    · exact law_ok (by simp [h])
  -- what it must be, if it is a number
  have key : ∀ v, numF s = some v → ∃ m : Nat, d = decDigits m ∧ m ≤ 9223372036854775808 ∧ (b = true → v = -(m : Int)) ∧ (b = false → v = (m : Int) ∧ m ≠ 9223372036854775808) := by
    intro v hv
    obtain ⟨h1, h2, h3⟩ := numF_some hv
    by_cases hn : v < 0
    · obtain ⟨u, rfl⟩ : ∃ u : Nat, v = -(u : Int) := ⟨v.natAbs, by omega⟩
      rw [itoa_ng u (by omega)] at h1
      subst h1
      have hb : b = true := by rw [hb]; simp
      subst hb
      exact ⟨u, by rw [hd]; simp, by omega, fun _ => rfl, fun h => (by cases h)⟩
    · obtain ⟨u, rfl⟩ : ∃ u : Nat, v = (u : Int) := ⟨v.toNat, by omega⟩
      rw [itoa_pos] at h1
      have hbf : b = false := by
        rw [hb]
        rw [decide_eq_false_iff_not]
        intro hh
        rw [← h1] at hh
        have := dec_digit u 45 (List.mem_of_mem_head? hh)
        simp at this
      subst hbf
      exact ⟨u, by rw [hd, ← h1]; simp, by omega, fun h => (by cases h), fun _ => ⟨rfl, by omega⟩⟩
  have none_of : (∀ m, d = decDigits m → m ≤ 9223372036854775808 → False) → numF s = none := fun h => by
    cases hv : numF s with
    | none => rfl
    | some v => obtain ⟨m, h1, h2, _⟩ := key v hv; exact (h m h1 h2).elim
  refine law_bind' (R := fun x => (x = false → 1 ≤ d.length ∧ d.length ≤ 19) ∧ (x = true → ∀ m, d = decDigits m → m ≤ 9223372036854775808 → False)) ?_ fun x hx => law_br (fun hxt => ?_) fun hxf => ?_
  · refine law_br (fun h => ?_) fun h => law_ok ⟨fun h' => ?_, fun h' m hm hle => ?_⟩
    · rw [ilt_true] at h
      refine law_ok ⟨fun hf => (by cases hf), fun _ m hm _ => dec_ne m ?_⟩
      rw [← hm]; exact List.eq_nil_of_length_eq_zero (by omega)
    · rw [ilt_false] at h h'; omega
    · rw [ilt_true] at h'
      have h1 := nDigits_le19 m (by omega)
      rw [← decDigits_length, ← hm] at h1
      omega
  · rw [none_of (hx.2 hxt)]
    exact law_ok rfl
  · obtain ⟨d1, d19⟩ := hx.1 hxf
    refine law_bind' (number_loop d d19) fun z hz => ?_
    cases z with
    | inr z =>
      obtain ⟨rfl, hz⟩ := hz
      rw [none_of hz]
      exact law_ok rfl
    | inl n =>
      obtain ⟨⟨n0, n1⟩, hz⟩ := hz
      show Res.sat (Res.bind _ _) _
      refine law_bind' (R := fun z => match z with
        | .inl k => (-9223372036854775808 ≤ k ∧ k < 9223372036854775808) ∧ ∀ v, numF s = some v → k = v
        | .inr z => z = (0, false) ∧ numF s = none) ?_ fun z hz2 => ?_
      · refine law_br (fun hb' => law_br (fun hn' => ?_) fun hn' => ?_) fun hb' => ?_
        · have hbf : b = false := by simpa using hb'
          refine law_ok ⟨rfl, ?_⟩
          cases hv : numF s with
          | none => rfl
          | some v =>
            obtain ⟨m, h1, h2, _, h4⟩ := key v hv
            have hn' : n = -9223372036854775808 := by simpa using hn'
            have := hz m h1 h2
            exact ((h4 hbf).2 (by omega)).elim
        · have hbf : b = false := by simpa using hb'
          refine law_ok ⟨wrap_range _, fun v hv => ?_⟩
          obtain ⟨m, h1, h2, _, h4⟩ := key v hv
          obtain ⟨h5, h6⟩ := h4 hbf
          rw [hz m h1 h2, wrap64 ⟨by omega, by omega⟩, h5]
          omega
        · have hbt : b = true := by simpa using hb'
          refine law_ok ⟨⟨n0, n1⟩, fun v hv => ?_⟩
          obtain ⟨m, h1, h2, h3, _⟩ := key v hv
          rw [hz m h1 h2, h3 hbt]
      · cases z with
        | inr z =>
          obtain ⟨rfl, hz2⟩ := hz2
          rw [hz2]
          exact law_ok rfl
        | inl k =>
          obtain ⟨⟨k0, k1⟩, hz2⟩ := hz2
          show Res.sat (Res.bind _ _) _
          refine law_bind_eq (dec_ok k0 k1) (law_given fun _ => law_ok ?_)
          cases hv : numF s with
          | some v =>
            rw [hz2 v hv, (numF_some hv).1]; simp
          | none =>
            show (itoa k == s) = false
            rw [beq_eq_false_iff_ne]
            rintro rfl
            rw [numF_itoa k0 k1] at hv
            cases hv
end Go.Mach

/-
  Acts as lines, lines as acts.
-/
set_option maxRecDepth 10000
namespace Go.Mach
open Res Lib

abbrev ActT := Int × Int × Int

def wordF (k : Int) : List UInt8 := if k = 1 then [115, 116, 101, 112] else if k = 2 then [102, 108, 117, 115, 104] else if k = 3 then [116, 101, 97, 114] else [116, 105, 99, 107]
def printF (a : ActT) : List UInt8 := if a.1 < 1 ∨ 4 < a.1 then [63] else (wordF a.1 ++ [32]) ++ itoa (if a.1 = 4 then a.2.2 else a.2.1)

theorem act_ok {a : ActT} (h : T_cluster_Act.ok a = true) : (-9223372036854775808 ≤ a.1 ∧ a.1 < 9223372036854775808) ∧ (-9223372036854775808 ≤ a.2.1 ∧ a.2.1 < 9223372036854775808) ∧ (-9223372036854775808 ≤ a.2.2 ∧ a.2.2 < 9223372036854775808) := by
  have h : (inRange .i64 a.1 && (inRange .i64 a.2.1 && inRange .i64 a.2.2)) = true := h
  simp only [Bool.and_eq_true, range64] at h
  exact h

theorem kinds {k : Int} (h0 : ¬ k < 1) (h1 : ¬ 4 < k) : k = 1 ∨ k = 2 ∨ k = 3 ∨ k = 4 := by omega

theorem print_ok (a : ActT) : (R.script_Print a).sat (· = printF a) := by
  unfold R.script_Print
  refine law_given fun h => ?_
  obtain ⟨_, h2, h3⟩ := act_ok (a := a) h
  obtain ⟨k, g, n⟩ := a
  simp only at h2 h3 ⊢
  refine law_bind' (R := fun b => b = decide (k < 1 ∨ 4 < k)) ?_ fun b hb => ?_
  · refine law_br (fun h => law_ok ?_) fun h => law_ok ?_
    · rw [ilt_true] at h; simp [h]
    · rw [ilt_false] at h; rw [Bool.eq_iff_iff]; simp [ilt]; omega
  subst hb
  refine law_br (fun h => law_ok ?_) fun h => ?_
  · rw [decide_eq_true_eq] at h
    simp only [printF]; rw [if_pos h]
  · rw [decide_eq_false_iff_not] at h
    have hp : printF (k, g, n) = (wordF k ++ [32]) ++ itoa (if k = 4 then n else g) := by simp only [printF]; rw [if_neg h]
    rw [hp]
    refine law_bind' (R := fun m => m = if k = 4 then n else g) ?_ fun m hm => ?_
    · refine law_br (fun h => law_ok ?_) fun h => law_ok ?_
      · have h : k = 4 := by simpa using h
        simp [h]
      · have h : ¬ k = 4 := by simpa using h
        simp [h]
    rw [← hm]
    have hr : -9223372036854775808 ≤ m ∧ m < 9223372036854775808 := by rw [hm]; split <;> assumption
    have hl := itoa_len hr.1 hr.2
    rcases kinds (k := k) (by omega) (by omega) with rfl | rfl | rfl | rfl
    all_goals
      refine law_need (by decide) (law_idx (by decide) (by decide) fun e he _ => ?_)
      cases he
      refine law_need (by decide) (law_bind_ok rfl (law_given fun _ => law_need ?_ (law_ok rfl)))
      refine strOk_small ?_
      simp; omega

theorem refPrint_ok (a : ActT) : (R.renref24_Print a).sat (· = printF a) := by
  unfold R.renref24_Print
  refine law_given fun h => ?_
  obtain ⟨_, h2, h3⟩ := act_ok (a := a) h
  obtain ⟨k, g, n⟩ := a
  simp only at h2 h3 ⊢
  refine law_bind' (R := fun b => b = decide (k < 1 ∨ 4 < k)) ?_ fun b hb => ?_
  · refine law_br (fun h => law_ok ?_) fun h => law_ok ?_
    · rw [ilt_true] at h; simp [h]
    · rw [ilt_false] at h; rw [Bool.eq_iff_iff]; simp [ilt]; omega
  subst hb
  refine law_br (fun h => law_ok ?_) fun h => ?_
  · rw [decide_eq_true_eq] at h
    simp only [printF]; rw [if_pos h]
  · rw [decide_eq_false_iff_not] at h
    have hp : printF (k, g, n) = (wordF k ++ [32]) ++ itoa (if k = 4 then n else g) := by simp only [printF]; rw [if_neg h]
    rw [hp]
    refine law_bind' (R := fun m => m = if k = 4 then n else g) ?_ fun m hm => ?_
    · refine law_br (fun h => law_ok ?_) fun h => law_ok ?_
      · have h : k = 4 := by simpa using h
        simp [h]
      · have h : ¬ k = 4 := by simpa using h
        simp [h]
    rw [← hm]
    have hr : -9223372036854775808 ≤ m ∧ m < 9223372036854775808 := by rw [hm]; split <;> assumption
    have hl := itoa_len hr.1 hr.2
    rcases kinds (k := k) (by omega) (by omega) with rfl | rfl | rfl | rfl
    all_goals
      refine law_need (by decide) (law_idx (by decide) (by decide) fun e he _ => ?_)
      cases he
      refine law_need (by decide) (law_bind_eq (dec_ok hr.1 hr.2) (law_given fun _ => law_need ?_ (law_ok rfl)))
      refine strOk_small ?_
      simp; omega

/-! ### Reading -/

/-- Where the first blank stands. -/
def kF (s : List UInt8) : Nat := s.findIdx (· == 32)
theorem kF_le (s : List UInt8) : kF s ≤ s.length := List.findIdx_le_length
theorem kF_cons (b : UInt8) (l : List UInt8) : kF (b :: l) = if b = 32 then 0 else kF l + 1 := by
  unfold kF
  rw [List.findIdx_cons]
  by_cases h : b = 32
  · subst h; rfl
  · have hb : (b == 32) = false := by simpa using h
    rw [hb, if_neg h]; rfl
theorem index_blank : ∀ s : List UInt8, index s [32] = if kF s < s.length then (kF s : Int) else -1
  | [] => rfl
  | b :: l => by
    rw [kF_cons]
    unfold index
    rw [index_blank l]
    by_cases h : b = 32
    · subst h; simp
    · have hb : List.isPrefixOf [32] (b :: l) = false := by
        simp [List.isPrefixOf]; exact fun e => h e.symm
      rw [hb]
      simp only [Bool.false_eq_true, if_false, List.length_cons, if_neg h]
      by_cases h2 : kF l < l.length
      · have h3 : ¬ ((kF l : Int) == -1) = true := by simp only [beq_iff_eq]; omega
        have h4 : kF l + 1 < l.length + 1 := by omega
        simp only [if_pos h2, if_pos h4, if_neg h3]
        all_goals omega
      · have h4 : ¬ kF l + 1 < l.length + 1 := by omega
        simp only [if_neg h2, if_neg h4]
        all_goals rfl
theorem cut_blank (s : List UInt8) : cut s [32] = (s.take (kF s), s.drop (kF s + 1), decide (kF s < s.length)) := by
  unfold cut
  rw [index_blank]
  have := kF_le s
  by_cases h : kF s < s.length
  · rw [if_pos h, if_pos (by omega)]; simp [h]
  · rw [if_neg h, if_neg (by decide)]
    rw [List.take_of_length_le (by omega), List.drop_eq_nil_of_le (by omega)]
    simp [h]

def kindF (w : List UInt8) : Int := if w = [116, 105, 99, 107] then 4 else if w = [116, 101, 97, 114] then 3 else if w = [102, 108, 117, 115, 104] then 2 else if w = [115, 116, 101, 112] then 1 else 0
def parseF (s : List UInt8) : ActT × Int :=
  if kindF (s.take (kF s)) = 0 then ((0, 0, 0), 8)
  else if s.drop (kF s + 1) = [] then ((0, 0, 0), 12)
  else match numF (s.drop (kF s + 1)) with
    | none => ((0, 0, 0), 2)
    | some n => if kindF (s.take (kF s)) = 4 then ((kindF (s.take (kF s)), 0, n), 0) else ((kindF (s.take (kF s)), n, 0), 0)

theorem beq_list {a b : List UInt8} : ((a == b) = true) = (b = a) := by
  rw [beq_iff_eq]
  exact propext eq_comm
theorem beq_list' {a b : List UInt8} : ((a == b) = false) = ¬ (b = a) := by
  rw [beq_eq_false_iff_ne]
  exact propext ⟨fun h e => h e.symm, fun h e => h e.symm⟩

theorem parse_ok {s : List UInt8} (hl : s.length < 4294967281) : (R.script_Parse s).sat (· = parseF s) := by
  unfold R.script_Parse
  refine law_given fun _ => ?_
  have hc : cutSRun s [32] = .ok (s.take (kF s), s.drop (kF s + 1), decide (kF s < s.length)) := by
    unfold cutSRun; rw [decide_eq_true hl, cut_blank]; rfl
  refine law_bind_ok hc (law_given fun _ => ?_)
  simp only
  unfold parseF
  have hk := kF_le s
  have hd : (s.drop (kF s + 1) = [] ∨ ¬ kF s < s.length) ↔ s.drop (kF s + 1) = [] := by
    constructor
    · rintro (h | h)
      · exact h
      · exact List.drop_eq_nil_of_le (by omega)
    · exact Or.inl
  generalize s.take (kF s) = w
  generalize s.drop (kF s + 1) = rest at hd ⊢
  have hd2 : (!decide (kF s < s.length)) = true → rest = [] := fun h => hd.1 (.inr (by simpa using h))
  generalize decide (kF s < s.length) = more at hd2 ⊢
  clear hd
  refine law_bind' (R := fun x => x = ((if w = [115, 116, 101, 112] then 1 else 0 : Int), (0 : Int), (0 : Int))) ?_ fun x hx => ?_
  · refine law_br (fun h => law_ok ?_) fun h => law_ok ?_
    · rw [beq_list] at h; rw [if_pos h]
    · rw [beq_list'] at h; rw [if_neg h]
  subst hx
  refine law_bind' (R := fun x => x = ((if w = [102, 108, 117, 115, 104] then 2 else if w = [115, 116, 101, 112] then 1 else 0 : Int), (0 : Int), (0 : Int))) ?_ fun x hx => ?_
  · refine law_br (fun h => law_ok ?_) fun h => law_ok ?_
    · rw [beq_list] at h; rw [if_pos h]
    · rw [beq_list'] at h; rw [if_neg h]
  subst hx
  refine law_bind' (R := fun x => x = ((if w = [116, 101, 97, 114] then 3 else if w = [102, 108, 117, 115, 104] then 2 else if w = [115, 116, 101, 112] then 1 else 0 : Int), (0 : Int), (0 : Int))) ?_ fun x hx => ?_
  · refine law_br (fun h => law_ok ?_) fun h => law_ok ?_
    · rw [beq_list] at h; rw [if_pos h]
    · rw [beq_list'] at h; rw [if_neg h]
  subst hx
  refine law_bind' (R := fun x => x = (kindF w, (0 : Int), (0 : Int))) ?_ fun x hx => ?_
  · unfold kindF
    refine law_br (fun h => law_ok ?_) fun h => law_ok ?_
    · rw [beq_list] at h; rw [if_pos h]
    · rw [beq_list'] at h; rw [if_neg h]
  subst hx
  simp only
  generalize kindF w = k
  refine law_br (fun h => ?_) fun h => ?_
  · have h : k = 0 := by simpa using h
    rw [if_pos h]; exact law_ok rfl
  have h : ¬ k = 0 := by simpa using h
  rw [if_neg h]
  refine law_bind' (R := fun b => b = decide (rest = [])) ?_ fun b hb => ?_
  · refine law_br (fun h => law_ok ?_) fun h => law_ok ?_
    · simp [hd2 h]
    · rw [Bool.eq_iff_iff]; simp
  subst hb
  refine law_br (fun h => ?_) fun h => ?_
  · rw [decide_eq_true_eq] at h
    rw [if_pos h]; exact law_ok rfl
  rw [decide_eq_false_iff_not] at h
  rw [if_neg h]
  have fin : ∀ n : Int, (Res.br (k == 4) (Res.ok (((k, ((0 : Int), n)), (0 : Int)))) (Res.ok (((k, (n, (0 : Int))), (0 : Int))))).sat (· = if k = 4 then ((k, 0, n), 0) else ((k, n, 0), 0)) := fun n => by
    refine law_br (fun h => ?_) fun h => ?_
    · have h : k = 4 := by simpa using h
      rw [if_pos h]; exact law_ok rfl
    · have h : ¬ k = 4 := by simpa using h
      rw [if_neg h]; exact law_ok rfl
  unfold numF
  rcases ha : atoiAll rest with v | _ | _
  · have e : atoiSRun rest = .ok (v, true) := by unfold atoiSRun; rw [ha]
    refine law_bind_ok e (law_given fun _ => ?_)
    simp only
    refine law_bind' (R := fun b => b = !(decide (itoa v = rest))) ?_ fun b hb => ?_
    · refine law_f rfl (law_bind_ok rfl (law_given fun _ => law_ok ?_))
      congr 1
      rw [Bool.eq_iff_iff]; simp
    subst hb
    by_cases hi : itoa v = rest
    · rw [if_pos hi]
      exact law_f (by simp [hi]) (fin v)
    · rw [if_neg hi]
      exact law_t (by simp [hi]) (law_ok rfl)
  · have e : atoiSRun rest = .ok (0, false) := by unfold atoiSRun; rw [ha]
    refine law_bind_ok e (law_given fun _ => ?_)
    exact law_bind' (R := fun b => b = true) (law_t rfl (law_ok rfl)) fun b hb => law_t hb (law_ok rfl)
  · have e : atoiSRun rest = .ok (atoiSat rest, false) := by unfold atoiSRun; rw [ha]
    refine law_bind_ok e (law_given fun _ => ?_)
    exact law_bind' (R := fun b => b = true) (law_t rfl (law_ok rfl)) fun b hb => law_t hb (law_ok rfl)

theorem blank_loop {s : List UInt8} (hl : s.length < 4294967281) : (Res.loop (α := Int) (β := Int) (fun k1 => Res.bind (α := Bool) (Res.br (ilt k1 (s.length : Int)) (Res.idx (.int .u8) (nums s) k1 fun e2 => Res.ok ((!(e2 == 32)))) (Res.ok (false))) fun x3 => Res.br x3 (Res.ok (.next (IntKind.wrap .i64 (k1 + 1)))) (Res.ok (.done (k1)))) fuel 0).sat (· = (kF s : Int)) := by
  have hk := kF_le s
  refine law_for (fun k : Int => k) s.length (by omega) (fun k : Int => 0 ≤ k ∧ k ≤ kF s) ⟨by omega, by omega⟩ (fun k h => ⟨h.1, by omega⟩) ?_
  rintro k ⟨k0, k1⟩
  refine law_bind' (R := fun b => (b = true → k < s.length ∧ k + 1 ≤ kF s) ∧ (b = false → k = kF s)) ?_ fun b hb => ?_
  · refine law_br (fun h => ?_) fun h => ?_
    · rw [ilt_true] at h
      refine law_idx k0 (by rw [nums_len]; omega) fun x hx _ => law_ok ?_
      obtain ⟨c, hc, rfl⟩ := nums_inv hx
      obtain ⟨hlt, hc⟩ := List.getElem?_eq_some_iff.1 hc
      have e1 : (c == 32) = decide (c = 32) := by rw [Bool.eq_iff_iff]; simp
      have e2 : ((c.toNat : Int) = 32) ↔ c = 32 := ⟨fun h => UInt8.toNat_inj.1 (by show c.toNat = 32; omega), fun h => by rw [h]; rfl⟩
      refine ⟨fun hb => ⟨h, ?_⟩, fun hb => ?_⟩
      · have hn : ¬ ((c.toNat : Int) = 32) := by
          intro e
          rw [e] at hb
          exact absurd hb (by decide)
        have : kF s ≠ k.toNat := by
          intro e
          have hg := List.findIdx_getElem (p := (· == (32 : UInt8))) (xs := s) (w := by show kF s < s.length; omega)
          have hg : (s[kF s]'(by omega) == 32) = true := hg
          simp only [e, hc] at hg
          exact hn (e2.2 (by simpa using hg))
        omega
      · have hn : (c.toNat : Int) = 32 := by
          apply Classical.byContradiction
          intro e
          have : (!((c.toNat : Int) == 32)) = true := by simp [e]
          have hb : (!((c.toNat : Int) == 32)) = false := hb
          rw [this] at hb; cases hb
        have hc32 := e2.1 hn
        have : ¬ k.toNat < kF s := by
          intro hlt2
          have := List.not_of_lt_findIdx (p := (· == (32 : UInt8))) (xs := s) (i := k.toNat) hlt2
          rw [hc, hc32] at this
          exact absurd this (by decide)
        omega
    · rw [ilt_false] at h
      refine law_ok ⟨fun h => (by cases h), fun _ => by omega⟩
  · refine law_br (fun h => ?_) fun h => ?_
    · obtain ⟨h1, h2⟩ := hb.1 h
      have e : IntKind.wrap .i64 (k + 1) = k + 1 := wrap64 ⟨by omega, by omega⟩
      exact law_ok ⟨e, by rw [e]; omega, by rw [e]; omega⟩
    · exact law_ok (hb.2 h)

theorem refParse_ok {s : List UInt8} (hl : s.length < 4294967281) : (R.renref24_Parse s).sat (· = parseF s) := by
  unfold R.renref24_Parse
  refine law_given fun _ => law_bind_eq (blank_loop hl) ?_
  unfold parseF
  have hk := kF_le s
  have hn : (ile 0 (kF s : Int) && ile (kF s : Int) s.length) = true := by simp [ile]; omega
  have hlen : ¬ (s.drop (kF s + 1) = []) ↔ kF s + 1 < s.length := by
    rw [List.drop_eq_nil_iff]; omega
  rw [show Int.toNat (kF s : Int) = kF s from rfl, show IntKind.wrap .i64 ((kF s : Int) + 1) = (kF s + 1 : Nat) from wrap64 ⟨by omega, by omega⟩, show Int.toNat ((kF s + 1 : Nat) : Int) = kF s + 1 from rfl]
  have hn2 : kF s + 1 < s.length → (ile 0 ((kF s + 1 : Nat) : Int) && ile ((kF s + 1 : Nat) : Int) s.length) = true := fun h => by simp [ile]; omega
  have hle : ile (s.length : Int) ((kF s + 1 : Nat) : Int) = decide (s.drop (kF s + 1) = []) := by
    rw [Bool.eq_iff_iff, ile_true, decide_eq_true_eq, List.drop_eq_nil_iff]; omega
  rw [hle]
  generalize s.take (kF s) = w
  generalize s.drop (kF s + 1) = rest at hlen ⊢
  refine law_bind' (R := fun x => x = (if w = [115, 116, 101, 112] then 1 else 0 : Int)) ?_ fun x hx => ?_
  · refine law_need hn (law_br (fun h => law_ok ?_) fun h => law_ok ?_)
    · rw [beq_list] at h; rw [if_pos h]
    · rw [beq_list'] at h; rw [if_neg h]
  subst hx
  refine law_bind' (R := fun x => x = (if w = [102, 108, 117, 115, 104] then 2 else if w = [115, 116, 101, 112] then 1 else 0 : Int)) ?_ fun x hx => ?_
  · refine law_need hn (law_br (fun h => law_ok ?_) fun h => law_ok ?_)
    · rw [beq_list] at h; rw [if_pos h]
    · rw [beq_list'] at h; rw [if_neg h]
  subst hx
  refine law_bind' (R := fun x => x = (if w = [116, 101, 97, 114] then 3 else if w = [102, 108, 117, 115, 104] then 2 else if w = [115, 116, 101, 112] then 1 else 0 : Int)) ?_ fun x hx => ?_
  · refine law_need hn (law_br (fun h => law_ok ?_) fun h => law_ok ?_)
    · rw [beq_list] at h; rw [if_pos h]
    · rw [beq_list'] at h; rw [if_neg h]
  subst hx
  refine law_bind' (R := fun x => x = kindF w) ?_ fun x hx => ?_
  · unfold kindF
    refine law_need hn (law_br (fun h => law_ok ?_) fun h => law_ok ?_)
    · rw [beq_list] at h; rw [if_pos h]
    · rw [beq_list'] at h; rw [if_neg h]
  subst hx
  generalize kindF w = k
  refine law_br (fun h => ?_) fun h => ?_
  · have h : k = 0 := by simpa using h
    rw [if_pos h]; exact law_ok rfl
  have h : ¬ k = 0 := by simpa using h
  rw [if_neg h]
  refine law_br (fun h => ?_) fun h => ?_
  · rw [decide_eq_true_eq] at h
    rw [if_pos h]; exact law_ok rfl
  rw [decide_eq_false_iff_not] at h
  rw [if_neg h]
  refine law_need (hn2 (hlen.1 h)) (law_bind' number_ok fun r hr => law_given fun _ => ?_)
  cases hv : numF rest with
  | none =>
    rw [hv] at hr
    exact law_t (by simp only at hr; rw [hr]; rfl) (law_ok rfl)
  | some v =>
    rw [hv] at hr
    simp only at hr
    subst hr
    refine law_f rfl (law_br (fun h => ?_) fun h => ?_)
    · have h : k = 4 := by simpa using h
      exact law_ok (by simp only [if_pos h])
    · have h : ¬ k = 4 := by simpa using h
      exact law_ok (by simp only [if_neg h])
end Go.Mach

/-
  The plain law of ScriptLines.
-/
set_option maxRecDepth 10000
namespace Go.Mach
open Res Lib

theorem first_ok : R.renlaw26_first = .ok true := by kernel_rfl

theorem same_ok (a b : ActT) : (R.renlaw26_same a b).sat (· = decide (a = b)) := by
  unfold R.renlaw26_same
  obtain ⟨a1, a2, a3⟩ := a
  obtain ⟨b1, b2, b3⟩ := b
  refine law_given fun _ => law_br (fun h => law_br (fun h' => law_ok ?_) fun h' => law_ok ?_) fun h => law_ok ?_
  · have e : a1 = b1 := by simpa using h
    have e' : a2 = b2 := by simpa using h'
    rw [Bool.eq_iff_iff]; simp [e, e']
  · have h' : ¬ a2 = b2 := by simpa using h'
    simp [h']
  · have h : ¬ a1 = b1 := by simpa using h
    simp [h]

theorem lines_law (a : ActT) (s : List UInt8) (hs : s.length ≤ 2 ^ 20) : (R.renlaw26_ScriptLines a s).sat (· = true) := by
  unfold R.renlaw26_ScriptLines
  refine law_given fun _ => law_bind_ok first_ok (law_f rfl (law_br (fun _ => law_bind_ok first_ok (law_ok rfl)) fun _ => ?_))
  refine law_bind_eq (parse_ok (by omega)) (law_given fun _ => law_bind_eq (refParse_ok (by omega)) (law_given fun _ => ?_))
  refine law_bind_ok first_ok (law_t rfl (law_bind_eq (print_ok a) (law_given fun _ => law_bind_eq (refPrint_ok a) (law_given fun _ => ?_))))
  exact law_t (by simp) (law_bind_eq (same_ok _ _) (law_t (by simp) (law_ok (by simp))))
end Go.Mach

/-
  Bytes as acts, as options.
-/
set_option maxRecDepth 10000
namespace Go.Mach
open Res Lib

def atF (b : List Int) (i : Nat) : Int := (b[i]?).getD 0
def actF (k z : Int) : ActT := if Int.tmod k 8 = 5 then (2, Int.tmod z 4, 0) else if Int.tmod k 8 = 6 then (3, Int.tmod z 4, 0) else if Int.tmod k 8 = 7 then (4, 0, 1 + z) else (1, Int.tmod z 4, 0)
def actsF (b : List Int) (n : Nat) : List ActT := (List.range n).map fun i => actF (atF b (2 * i)) (atF b (2 * i + 1))
def numA (b : List Int) : Nat := min (b.length / 2) 2000
def okAct (a : ActT) : Prop := (1 ≤ a.1 ∧ a.1 ≤ 4) ∧ (0 ≤ a.2.1 ∧ a.2.1 ≤ 3) ∧ 0 ≤ a.2.2 ∧ a.2.2 ≤ 256

theorem range8 {n : Int} (h : inRange .u8 n = true) : 0 ≤ n ∧ n < 256 := by
  have h : IntKind.wrap .u8 n = n := by simpa [inRange] using h
  simp [IntKind.wrap, IntKind.signed, IntKind.bits] at h
  omega
theorem at_of {b : List Int} {i : Nat} {x : Int} (h : b[i]? = some x) : atF b i = x := by unfold atF; rw [h]; rfl
theorem tmod_range {k : Int} (h : 0 ≤ k) (m : Int) (hm : 0 < m) : 0 ≤ Int.tmod k m ∧ Int.tmod k m < m := by
  rw [Int.tmod_eq_emod_of_nonneg h]
  exact ⟨Int.emod_nonneg _ (by omega), Int.emod_lt_of_pos _ hm⟩

theorem actF_ok {k z : Int} (hz : 0 ≤ z ∧ z < 256) : okAct (actF k z) := by
  have h4 := tmod_range hz.1 4 (by omega)
  unfold actF okAct
  split
  · simp only; omega
  · split
    · simp only; omega
    · split
      · simp only; omega
      · simp only; omega

theorem actR_ok {k z : Int} (hz : 0 ≤ z ∧ z < 256) : (R.script_act k z).sat (· = actF k z) := by
  unfold R.script_act actF
  refine law_given fun _ => law_need rfl (law_br (fun h => law_need rfl (law_ok ?_)) fun h => law_br (fun h' => law_need rfl (law_ok ?_)) fun h' => law_br (fun h'' => law_ok ?_) fun h'' => law_need rfl (law_ok ?_))
  · rw [if_pos (by simpa using h)]
  · rw [if_neg (by simpa using h), if_pos (by simpa using h')]
  · rw [if_neg (by simpa using h), if_neg (by simpa using h'), if_pos (by simpa using h''), wrap64 ⟨by omega, by omega⟩]
  · rw [if_neg (by simpa using h), if_neg (by simpa using h'), if_neg (by simpa using h'')]

theorem actsF_succ (b : List Int) (n : Nat) : actsF b (n + 1) = actsF b n ++ [actF (atF b (2 * n)) (atF b (2 * n + 1))] := by
  unfold actsF; rw [List.range_succ, List.map_append]; rfl
theorem actsF_len (b : List Int) (n : Nat) : (actsF b n).length = n := by unfold actsF; simp
theorem room24 {n : Nat} (h : n ≤ 2000) {x : ActT} : decide ((n + [x].length) * 24 ≤ 2 ^ 47) = true := by
  rw [decide_eq_true_eq]; simp only [List.length_singleton]; omega

/-- What the loop over the acts holds. -/
def ActI (b : List Int) (l : List ActT) (n : Nat) : Prop := n ≤ numA b ∧ l = actsF b n ∧ ∀ x ∈ l, okAct x
theorem ActI.next {b : List Int} {l : List ActT} {n : Nat} (h : ActI b l n) (h1 : 2 * n + 1 < b.length) (h2 : n < 2000) {x y : Int} (hx : b[2 * n]? = some x) (hy : b[2 * n + 1]? = some y) (hr : 0 ≤ y ∧ y < 256) : ActI b (l ++ [actF x y]) (n + 1) := by
  obtain ⟨_, rfl, h4⟩ := h
  refine ⟨by unfold numA; omega, by rw [actsF_succ, at_of hx, at_of hy], fun a ha => ?_⟩
  rcases List.mem_append.1 ha with ha | ha
  · exact h4 a ha
  · simp only [List.mem_singleton] at ha
    subst ha
    exact actF_ok hr
theorem ActI.len {b : List Int} {l : List ActT} {n : Nat} (h : ActI b l n) : l.length = n := by rw [h.2.1, actsF_len]
theorem ActI.end {b : List Int} {l : List ActT} {n : Nat} (h : ActI b l n) (h1 : ¬ (2 * n + 1 < b.length ∧ n < 2000)) : l = actsF b (numA b) ∧ ∀ x ∈ l, okAct x := by
  obtain ⟨h2, h3, h4⟩ := h
  have : n = numA b := by unfold numA at h2 ⊢; omega
  subst this
  exact ⟨h3, h4⟩

theorem acts_ok {b : List Int} (hl : b.length ≤ 2 ^ 20) : (R.script_Acts b).sat fun r => r = actsF b (numA b) ∧ ∀ x ∈ r, okAct x := by
  unfold R.script_Acts
  refine law_given fun _ => law_bind' (R := fun r : List ActT => r = actsF b (numA b) ∧ ∀ x ∈ r, okAct x) ?_ fun r hr => law_ok hr
  refine law_for (fun a : List ActT × Int => (a.1.length : Int)) 2000 (by omega) (fun a : List ActT × Int => ∃ n : Nat, a.2 = 2 * n ∧ ActI b a.1 n) ⟨0, rfl, Nat.zero_le _, rfl, fun x hx => by cases hx⟩ ?_ ?_
  · rintro ⟨l, i⟩ ⟨n, _, hI⟩
    have h1 := hI.len
    have h2 := hI.1
    unfold numA at h2
    simp only at h1 ⊢
    omega
  · rintro ⟨l, i⟩ ⟨n, hi, hI⟩
    simp only at hi hI
    subst hi
    have hlen := hI.len
    have hnb : n ≤ numA b := hI.1
    unfold numA at hnb
    simp only
    have e1 : IntKind.wrap .i64 ((2 * n : Int) + 1) = 2 * n + 1 := wrap64 ⟨by omega, by omega⟩
    rw [e1]
    refine law_bind' (R := fun c => c = decide (2 * n + 1 < b.length ∧ n < 2000)) ?_ fun c hc => ?_
    · refine law_br (fun h => law_ok ?_) fun h => law_ok ?_
      · rw [ilt_true] at h
        rw [Bool.eq_iff_iff, ilt_true, decide_eq_true_eq]; omega
      · rw [ilt_false] at h
        rw [Bool.eq_iff_iff]; simp; omega
    subst hc
    refine law_br (fun h => ?_) fun h => ?_
    · rw [decide_eq_true_eq] at h
      refine law_idxS (by omega) (by omega) fun x hx hx8 => law_idxS (by omega) (by omega) fun y hy hy8 => ?_
      have hx8 := range8 hx8
      have hy8 := range8 hy8
      rw [show (2 * (n : Int)).toNat = 2 * n by omega] at hx
      rw [show (2 * (n : Int) + 1).toNat = 2 * n + 1 by omega] at hy
      rw [wrap64 (n := x) ⟨by omega, by omega⟩, wrap64 (n := y) ⟨by omega, by omega⟩]
      refine law_bind_eq (actR_ok hy8) (law_given fun _ => law_need (room24 (x := (0, 0, 0)) (by omega)) (law_ok ⟨?_, n + 1, ?_, hI.next h.1 h.2 hx hy hy8⟩))
      · simp
      · rw [wrap64 ⟨by omega, by omega⟩]; omega
    · rw [decide_eq_false_iff_not] at h
      exact law_ok (hI.end h)

theorem refActs_ok {b : List Int} (hl : b.length ≤ 2 ^ 20) : (R.renref24_Acts b).sat (· = actsF b (numA b)) := by
  unfold R.renref24_Acts
  refine law_given fun _ => law_bind' (R := fun r : List ActT => r = actsF b (numA b)) ?_ fun r hr => law_ok hr
  refine law_for (fun a : List ActT × Int => a.2) 2000 (by omega) (fun a : List ActT × Int => ∃ n : Nat, a.2 = n ∧ ActI b a.1 n) ⟨0, rfl, Nat.zero_le _, rfl, fun x hx => by cases hx⟩ ?_ ?_
  · rintro ⟨l, i⟩ ⟨n, hi, hI⟩
    have h2 := hI.1
    unfold numA at h2
    simp only at hi ⊢
    omega
  · rintro ⟨l, i⟩ ⟨n, hi, hI⟩
    simp only at hi hI
    subst hi
    have hlen := hI.len
    have hnb : n ≤ numA b := hI.1
    unfold numA at hnb
    simp only
    have e1 : IntKind.wrap .i64 (2 * n : Int) = 2 * n := wrap64 ⟨by omega, by omega⟩
    have e2 : IntKind.wrap .i64 ((2 * n : Int) + 1) = 2 * n + 1 := wrap64 ⟨by omega, by omega⟩
    have e3 : IntKind.wrap .i64 ((n : Int) + 1) = n + 1 := wrap64 ⟨by omega, by omega⟩
    simp only [e1, e2, e3]
    refine law_bind' (R := fun c => c = decide (2 * n + 1 < b.length ∧ n < 2000)) ?_ fun c hc => ?_
    · refine law_br (fun h => law_ok ?_) fun h => law_ok ?_
      · rw [ilt_true] at h
        rw [Bool.eq_iff_iff, ilt_true, decide_eq_true_eq]; omega
      · rw [ilt_false] at h
        rw [Bool.eq_iff_iff]; simp; omega
    subst hc
    refine law_br (fun h => ?_) fun h => ?_
    · rw [decide_eq_true_eq] at h
      refine law_idxS (by omega) (by omega) fun x hx hx8 => law_need rfl (law_idxS (by omega) (by omega) fun y hy hy8 => ?_)
      have hx8 := range8 hx8
      have hy8 := range8 hy8
      rw [show (2 * (n : Int)).toNat = 2 * n by omega] at hx
      rw [show (2 * (n : Int) + 1).toNat = 2 * n + 1 by omega] at hy
      rw [wrap64 (n := x) ⟨by omega, by omega⟩, wrap64 (n := y) ⟨by omega, by omega⟩]
      have hnx := hI.next h.1 h.2 hx hy hy8
      have fin : ∀ a : ActT, a = actF x y → (Res.ok (.next ((l ++ [a], (n : Int) + 1))) : Res (Step (List ActT × Int) (List ActT))).sat fun
          | .next a' => a'.2 = (n : Int) + 1 ∧ ∃ m : Nat, a'.2 = m ∧ ActI b a'.1 m
          | .done r => r = actsF b (numA b) := fun a ha => by
        subst ha
        exact law_ok ⟨rfl, n + 1, rfl, hnx⟩
      refine law_br (fun h => law_need rfl (law_need (room24 (x := (0, 0, 0)) (by omega)) (fin _ ?_))) fun h => law_br (fun h' => law_need rfl (law_need (room24 (x := (0, 0, 0)) (by omega)) (fin _ ?_))) fun h' => law_br (fun h'' => law_need (room24 (x := (0, 0, 0)) (by omega)) (fin _ ?_)) fun h'' => law_need rfl (law_need (room24 (x := (0, 0, 0)) (by omega)) (fin _ ?_))
      · unfold actF; rw [if_pos (by simpa using h)]
      · unfold actF; rw [if_neg (by simpa using h), if_pos (by simpa using h')]
      · unfold actF; rw [if_neg (by simpa using h), if_neg (by simpa using h'), if_pos (by simpa using h''), wrap64 ⟨by omega, by omega⟩]
      · unfold actF; rw [if_neg (by simpa using h), if_neg (by simpa using h'), if_neg (by simpa using h'')]
    · rw [decide_eq_false_iff_not] at h
      exact law_ok (hI.end h).1
end Go.Mach

/-
  The plain law of ScriptCuts.
-/
set_option maxRecDepth 10000
namespace Go.Mach
open Res Lib

theorem actsF_at {b : List Int} {n i : Nat} (h : i < n) : (actsF b n)[i]? = some (actF (atF b (2 * i)) (atF b (2 * i + 1))) := by
  unfold actsF; rw [List.getElem?_map, List.getElem?_range h]; rfl
theorem atF_take {b : List Int} {k i : Nat} (h : i < k) : atF (b.take k) i = atF b i := by
  unfold atF; rw [List.getElem?_take, if_pos h]

/-- An element that is known. -/
theorem idx_at {t : Ty} {xs : List t.den} {i : Int} {β : Type} {k : t.den → Res β} {Q : β → Prop} {x : t.den} (h0 : 0 ≤ i) (hx : xs[i.toNat]? = some x) (h : (k x).sat Q) : (idx t xs i k).sat Q := by
  rw [law_idx_iff]
  exact ⟨h0, x, hx, fun _ => h⟩

theorem act_tail {r : List ActT} {i : Int} {x : ActT} (h0 : 0 ≤ i) (h1 : i < r.length) (hx : r[i.toNat]? = some x) (hok : okAct x) :
    (Res.need (ile 0 i && ilt i r.length) (Res.idx T_cluster_Act r (0 + Int.toNat i) fun e16 => Res.br (ilt e16.1 1) (Res.ok (true)) (Res.need (ile 0 i && ilt i r.length) (Res.idx T_cluster_Act r (0 + Int.toNat i) fun e17 => Res.br (ilt 4 e17.1) (Res.ok (true)) (Res.need (ile 0 i && ilt i r.length) (Res.idx T_cluster_Act r (0 + Int.toNat i) fun e18 => Res.br (ilt e18.2.1 0) (Res.ok (true)) (Res.need (ile 0 i && ilt i r.length) (Res.idx T_cluster_Act r (0 + Int.toNat i) fun e19 => Res.br (ilt 3 e19.2.1) (Res.ok (true)) (Res.need (ile 0 i && ilt i r.length) (Res.idx T_cluster_Act r (0 + Int.toNat i) fun e20 => Res.br (ilt e20.2.2 0) (Res.ok (true)) (Res.need (ile 0 i && ilt i r.length) (Res.idx T_cluster_Act r (0 + Int.toNat i) fun e21 => Res.ok ((ilt 256 e21.2.2))))))))))))) : Res Bool).sat (· = false) := by
  obtain ⟨⟨a1, a2⟩, ⟨a3, a4⟩, a5, a6⟩ := hok
  have hn : (ile 0 i && ilt i r.length) = true := by simp [ile, ilt]; omega
  have h0' : (0 : Int) ≤ 0 + (i.toNat : Int) := by omega
  have hx' : r[(0 + (i.toNat : Int)).toNat]? = some x := by rw [idx0]; exact hx
  refine law_need hn (idx_at h0' hx' (law_f (by rw [ilt_false]; omega) (law_need hn (idx_at h0' hx' (law_f (by rw [ilt_false]; omega) (law_need hn (idx_at h0' hx' (law_f (by rw [ilt_false]; omega) (law_need hn (idx_at h0' hx' (law_f (by rw [ilt_false]; omega) (law_need hn (idx_at h0' hx' (law_f (by rw [ilt_false]; omega) (law_need hn (idx_at h0' hx' (law_ok ?_)))))))))))))))))
  rw [ilt_false]; omega

theorem cuts_law (b : List Int) (at_ : Int) (hb : b.length ≤ 2 ^ 20) : (R.renlaw26_ScriptCuts b at_).sat (· = true) := by
  unfold R.renlaw26_ScriptCuts
  refine law_given fun _ => law_bind_ok first_ok (law_f rfl ?_)
  refine law_bind' (R := fun c => c = decide (¬ (b.length ≤ 2000 ∧ 0 ≤ at_ ∧ at_ ≤ b.length))) ?_ fun c hc => ?_
  · refine law_br (fun h => law_ok ?_) fun h => law_br (fun h' => law_ok ?_) fun h' => law_ok ?_
    · rw [ilt_true] at h; rw [Bool.eq_iff_iff]; simp; omega
    · rw [ilt_true] at h'; rw [Bool.eq_iff_iff]; simp; omega
    · rw [ilt_false] at h h'; rw [Bool.eq_iff_iff]; simp [ilt]; omega
  subst hc
  refine law_br (fun _ => law_bind_ok first_ok (law_ok rfl)) fun h => ?_
  have h : b.length ≤ 2000 ∧ 0 ≤ at_ ∧ at_ ≤ b.length := by simpa using h
  obtain ⟨b1, b2, b3⟩ := h
  obtain ⟨k, rfl⟩ : ∃ k : Nat, at_ = k := ⟨at_.toNat, by omega⟩
  refine law_bind' (acts_ok hb) fun r4 hr4 => law_given fun _ => law_need (by simp [ile]; omega) ?_
  rw [show Int.toNat (k : Int) = k from rfl, List.drop_zero]
  have htk : (b.take k).length = k := by rw [List.length_take]; omega
  refine law_bind' (acts_ok (by rw [htk]; omega)) fun r5 hr5 => law_given fun _ => ?_
  obtain ⟨e4, o4⟩ := hr4
  obtain ⟨e5, o5⟩ := hr5
  have l4 : r4.length = numA b := by rw [e4, actsF_len]
  have l5 : r5.length = numA (b.take k) := by rw [e5, actsF_len]
  have n4 : numA b = min (b.length / 2) 2000 := rfl
  have n5 : numA (b.take k) = min (k / 2) 2000 := by unfold numA; rw [htk]
  have hdiv : IntKind.wrap .i64 (Int.tdiv (k : Int) 2) = ((k / 2 : Nat) : Int) := by
    rw [Int.tdiv_eq_ediv_of_nonneg (by omega), wrap64 ⟨by omega, by omega⟩]; rfl
  refine law_bind_eq (a := false) ?_ (law_f rfl ?_)
  · refine law_f (by rw [ilt_false]; omega) (law_need rfl (law_ok ?_))
    rw [hdiv, minI_eq]
    simp only [Bool.not_eq_false', beq_iff_eq]
    omega
  refine law_bind_eq (a := .inl ()) ?_ (law_inl (law_bind_ok first_ok (law_ok rfl)))
  refine law_for (fun i : Int => i) r4.length (by omega) (fun i : Int => 0 ≤ i ∧ i ≤ r4.length) ⟨by omega, by omega⟩ (fun i h => h) ?_
  rintro i ⟨i0, i1⟩
  refine law_br (fun hi => ?_) fun _ => law_ok rfl
  rw [ilt_true] at hi
  have hlt : i.toNat < r4.length := by omega
  have hx : r4[i.toNat]? = some r4[i.toNat] := List.getElem?_eq_getElem hlt
  have hox := o4 r4[i.toNat] (List.getElem_mem hlt)
  refine law_bind_eq (a := false) ?_ (law_f rfl (law_ok ⟨wrap64 ⟨by omega, by omega⟩, by rw [wrap64 ⟨by omega, by omega⟩]; omega, by rw [wrap64 ⟨by omega, by omega⟩]; omega⟩))
  refine law_br (fun h5 => ?_) fun h5 => act_tail i0 hi hx hox
  rw [ilt_true] at h5
  have hlt5 : i.toNat < r5.length := by omega
  have hx5 : r5[i.toNat]? = some r4[i.toNat] := by
    rw [← hx, e5, e4, actsF_at (by omega), actsF_at (by omega), atF_take (by omega), atF_take (by omega)]
  have hn : (ile 0 i && ilt i r4.length) = true := by simp [ile, ilt]; omega
  have hn5 : (ile 0 i && ilt i r5.length) = true := by simp [ile, ilt]; omega
  refine law_need hn (idx_at (by omega) (by rw [idx0]; exact hx) (law_need hn5 (idx_at (by omega) (by rw [idx0]; exact hx5) (law_f (by simp) (act_tail i0 hi hx hox)))))
end Go.Mach

/-
  Words and numbers, parted by blanks.
-/
set_option maxRecDepth 10000
namespace Go.Mach
open Res Lib

theorem sOk {n : Nat} (h : n ≤ 100000000) : strOk n = true := by
  simp only [strOk, decide_eq_true_eq]; omega
theorem okSlot {n : Nat} (h : n ≤ 100000000) {x : List UInt8} : decide ((n + [x].length) * 16 ≤ 2 ^ 47) = true := by
  rw [decide_eq_true_eq]; simp only [List.length_singleton]; omega

/-- A word behind a line. -/
def addW (l w : List UInt8) : List UInt8 := if l = [] then w else l ++ ([32] ++ w)
def numW (l : List UInt8) (ns : List Int) : List UInt8 := ns.foldl (fun l n => addW l (itoa n)) l
/-- Numbers, each behind a blank. -/
def tailN : List Int → List UInt8
  | [] => []
  | n :: r => [32] ++ itoa n ++ tailN r
def partT (w : List UInt8) (ns : List Int) : List UInt8 := if ns = [] then [] else [32] ++ w ++ tailN ns

theorem addW_ne {l : List UInt8} (h : l ≠ []) (w : List UInt8) : addW l w = l ++ ([32] ++ w) := by unfold addW; rw [if_neg h]
theorem addW_pos {l w : List UInt8} (h : w ≠ []) : addW l w ≠ [] := by
  unfold addW
  split
  · exact h
  · simp
theorem addW_len (l w : List UInt8) : (addW l w).length ≤ l.length + 1 + w.length := by
  unfold addW
  split
  · omega
  · simp only [List.length_append, List.length_singleton]; omega
theorem numW_ne : ∀ (ns : List Int) {l : List UInt8}, l ≠ [] → numW l ns = l ++ tailN ns
  | [], l, _ => by simp [numW, tailN]
  | n :: r, l, h => by
    have h1 := numW_ne r (addW_pos (l := l) (itoa_ne' n))
    show numW (addW l (itoa n)) r = _
    rw [h1, addW_ne h]
    simp only [tailN, List.append_assoc]
where
  itoa_ne' (n : Int) : itoa n ≠ [] := by
    unfold itoa
    split
    · simp
    · exact dec_ne _
theorem itoa_nonil (n : Int) : itoa n ≠ [] := numW_ne.itoa_ne' n
theorem numW_nil (n : Int) (r : List Int) : numW [] (n :: r) = itoa n ++ tailN r := by
  show numW (addW [] (itoa n)) r = _
  have : addW [] (itoa n) = itoa n := by unfold addW; rw [if_pos rfl]
  rw [this, numW_ne r (itoa_nonil n)]
theorem numW_snoc (l : List UInt8) (ns : List Int) (n : Int) : numW l (ns ++ [n]) = addW (numW l ns) (itoa n) := by unfold numW; rw [List.foldl_append]; rfl
theorem tailN_snoc : ∀ (ns : List Int) (n : Int), tailN (ns ++ [n]) = tailN ns ++ ([32] ++ itoa n)
  | [], n => by simp [tailN]
  | m :: r, n => by simp only [List.cons_append, tailN, tailN_snoc r n, List.append_assoc]
theorem tailN_nil {ns : List Int} : tailN ns = [] ↔ ns = [] := by
  cases ns with
  | nil => simp [tailN]
  | cons n r => simp [tailN]
theorem take_snoc {α : Type} {l : List α} {i : Nat} {x : α} (h : l[i]? = some x) : l.take (i + 1) = l.take i ++ [x] := by
  rw [List.take_add_one, h]; rfl

theorem word_ok {l w : List UInt8} (h : l.length + 1 + w.length ≤ 100000000) : (R.script_line_word l w).sat (· = ((), addW l w)) := by
  unfold R.script_line_word
  refine law_given fun _ => ?_
  refine law_bind_eq (a := ((l.length : Int), l)) (law_need (sOk (by omega)) (law_ok rfl)) (law_given fun _ => law_br (fun hl => ?_) fun hl => ?_)
  · rw [ilt_true] at hl
    have hne : l ≠ [] := by rintro rfl; simp at hl
    refine law_bind_eq (a := (true, l ++ [32])) (law_need (sOk (by show l.length + 1 ≤ _; omega)) (law_ok rfl)) (law_given fun _ => ?_)
    refine law_bind_eq (a := (((w.length : Int), true), (l ++ [32]) ++ w)) (law_need (sOk (by simp only [List.length_append, List.length_singleton]; omega)) (law_ok rfl)) (law_given fun _ => law_ok ?_)
    rw [addW_ne hne, List.append_assoc]
  · rw [ilt_false] at hl
    have he : l = [] := List.eq_nil_of_length_eq_zero (by simp only at hl; omega)
    subst he
    refine law_bind_eq (a := (((w.length : Int), true), [] ++ w)) (law_need (sOk (by simp only [List.length_nil]; omega)) (law_ok rfl)) (law_given fun _ => law_ok ?_)
    unfold addW; rw [if_pos rfl]; rfl

theorem number_line {l : List UInt8} {ns : List Int} (hl : l.length ≤ 10000000) (hn : ns.length ≤ 1000000) : (R.script_line_number l ns).sat fun r => r = ((), numW l ns) ∧ (numW l ns).length ≤ l.length + 22 * ns.length := by
  unfold R.script_line_number
  refine law_given fun _ => law_bind' (R := fun r : List UInt8 => r = numW l ns ∧ (numW l ns).length ≤ l.length + 22 * ns.length) ?_ fun r hr => law_ok ⟨by rw [hr.1], hr.2⟩
  refine law_for (fun a : Int × List UInt8 => a.1) ns.length (by omega) (fun a : Int × List UInt8 => ∃ i : Nat, a.1 = i ∧ i ≤ ns.length ∧ a.2 = numW l (ns.take i) ∧ a.2.length ≤ l.length + 22 * i) ⟨0, rfl, Nat.zero_le _, rfl, by simp⟩ ?_ ?_
  · rintro ⟨x, y⟩ ⟨i, h1, h2, _⟩
    simp only at h1 ⊢; omega
  · rintro ⟨x, y⟩ ⟨i, h1, h2, h3, h4⟩
    simp only at h1 h3 h4 ⊢
    subst h1
    refine law_br (fun h => ?_) fun h => ?_
    · rw [ilt_true] at h
      refine law_idxS (by omega) (by omega) fun e he hr => ?_
      have hr : inRange .i64 e = true := hr
      rw [range64] at hr
      have hlen := itoa_len hr.1 hr.2
      have he : ns[i]? = some e := he
      refine law_bind_ok rfl (law_given fun _ => law_bind_eq (word_ok (by omega)) (law_given fun _ => law_ok ?_))
      have ei : IntKind.wrap .i64 ((i : Int) + 1) = ((i + 1 : Nat) : Int) := wrap64 ⟨by omega, by omega⟩
      have := addW_len y (itoa e)
      refine ⟨by rw [ei]; rfl, i + 1, ei, by omega, ?_, by show (addW y (itoa e)).length ≤ _; omega⟩
      rw [take_snoc he, numW_snoc, ← h3]
    · rw [ilt_false] at h
      have : i = ns.length := by omega
      subst this
      rw [List.take_length] at h3
      exact law_ok ⟨h3, by rw [← h3]; exact h4⟩

theorem bytes_line {l w : List UInt8} {bs : List Int} (h0 : l ≠ []) (hl : l.length ≤ 5000000) (hw : w.length ≤ 10) (hn : bs.length ≤ 100000) : (R.script_line_bytes l w bs).sat fun r => r = ((), l ++ partT w bs) ∧ (l ++ partT w bs).length ≤ l.length + 11 + 22 * bs.length := by
  unfold R.script_line_bytes
  refine law_given fun _ => law_bind_eq (a := if bs = [] then l else l ++ ([32] ++ w)) ?_ ?_
  · refine law_br (fun h => ?_) fun h => law_ok ?_
    · rw [ilt_true] at h
      have hne : bs ≠ [] := by rintro rfl; simp at h
      refine law_bind_eq (word_ok (by omega)) (law_given fun _ => law_ok ?_)
      rw [if_neg hne, addW_ne h0]
    · rw [ilt_false] at h
      have : bs = [] := List.eq_nil_of_length_eq_zero (by omega)
      rw [if_pos this]
  generalize hg : (if bs = [] then l else l ++ ([32] ++ w)) = g
  have hgl : g.length ≤ l.length + 11 ∧ g ≠ [] := by
    rw [← hg]
    split
    · exact ⟨by omega, h0⟩
    · refine ⟨?_, by simp⟩
      simp only [List.length_append, List.length_singleton]; omega
  have hpart : l ++ partT w bs = g ++ tailN bs := by
    rw [← hg]
    unfold partT
    split
    · rename_i h; subst h; rfl
    · simp only [List.append_assoc]
  rw [hpart]
  refine law_bind' (R := fun r : List UInt8 => r = g ++ tailN bs ∧ r.length ≤ g.length + 22 * bs.length) ?_ fun r hr => law_ok ⟨by rw [hr.1], by rw [← hr.1]; omega⟩
  refine law_for (fun a : Int × List UInt8 => a.1) bs.length (by omega) (fun a : Int × List UInt8 => ∃ i : Nat, a.1 = i ∧ i ≤ bs.length ∧ a.2 = g ++ tailN (bs.take i) ∧ a.2.length ≤ g.length + 22 * i) ⟨0, rfl, Nat.zero_le _, by simp [tailN], by simp⟩ ?_ ?_
  · rintro ⟨x, y⟩ ⟨i, h1, h2, _⟩
    simp only at h1 ⊢; omega
  · rintro ⟨x, y⟩ ⟨i, h1, h2, h3, h4⟩
    simp only at h1 h3 h4 ⊢
    subst h1
    refine law_br (fun h => ?_) fun h => ?_
    · rw [ilt_true] at h
      refine law_idxS (by omega) (by omega) fun e he hr => ?_
      have hr := range8 hr
      have he : bs[i]? = some e := he
      rw [wrap64 (n := e) ⟨by omega, by omega⟩]
      refine law_bind' (number_line (by omega) (by simp)) fun r hr2 => law_given fun _ => law_ok ?_
      obtain ⟨rfl, hr3⟩ := hr2
      have hy : y ≠ [] := by rw [h3]; simp [hgl.2]
      rw [numW_ne _ hy] at hr3 ⊢
      have ei : IntKind.wrap .i64 ((i : Int) + 1) = ((i + 1 : Nat) : Int) := wrap64 ⟨by omega, by omega⟩
      refine ⟨by rw [ei]; rfl, i + 1, ei, by omega, ?_, ?_⟩
      · rw [take_snoc he, tailN_snoc, ← List.append_assoc, ← h3]; simp [tailN]
      · simp only [List.length_singleton] at hr3 ⊢; omega
    · rw [ilt_false] at h
      have : i = bs.length := by omega
      subst this
      rw [List.take_length] at h3
      exact law_ok ⟨h3, h4⟩

def kindW (k : Int) : List UInt8 := if k = 0 then [115, 121, 110, 99] else if k = 1 then [108, 111, 97, 100] else if k = 2 then [115, 116, 111, 114, 101] else if k = 3 then [99, 104, 97, 110, 103, 101] else [63]
theorem kindW_len (k : Int) : (kindW k).length ≤ 6 := by
  unfold kindW; repeat (split; · simp)
  simp
theorem kindW_ne (k : Int) : kindW k ≠ [] := by
  unfold kindW; repeat (split; · simp)
  simp
theorem kind_ok (k : Int) : (R.script_kind k).sat (· = kindW k) := by
  unfold R.script_kind kindW
  refine law_given fun _ => law_br (fun h => law_ok ?_) fun h => law_br (fun h' => law_ok ?_) fun h' => law_br (fun h2 => law_ok ?_) fun h2 => law_br (fun h3 => law_ok ?_) fun h3 => law_ok ?_
  · rw [if_pos (by simpa using h)]
  · rw [if_neg (by simpa using h), if_pos (by simpa using h')]
  · rw [if_neg (by simpa using h), if_neg (by simpa using h'), if_pos (by simpa using h2)]
  · rw [if_neg (by simpa using h), if_neg (by simpa using h'), if_neg (by simpa using h2), if_pos (by simpa using h3)]
  · rw [if_neg (by simpa using h), if_neg (by simpa using h'), if_neg (by simpa using h2), if_neg (by simpa using h3)]
end Go.Mach

/-
  A log as lines: the program.
-/
set_option maxRecDepth 10000
namespace Go.Mach
open Res Lib

abbrev EvT := Int × Int × Bool × Bool × Int × Int × Int × List Int × List Int × List Int
abbrev LogT := List EvT × List (Int × Int)

def headF (i : Int) (e : EvT) : List UInt8 := (itoa i ++ tailN [e.1]) ++ ([32] ++ kindW e.2.1)
def placeF (e : EvT) : List UInt8 := if e.2.1 = 0 then [] else tailN [e.2.2.2.2.1, e.2.2.2.2.2.1, e.2.2.2.2.2.2.1]
def seqF (b : Bool) : List UInt8 := if b = true then [32, 115, 101, 113] else []
def wholeF (b : Bool) : List UInt8 := if b = true then [32, 119, 104, 111, 108, 101] else []
def wRead : List UInt8 := [114, 101, 97, 100]
def wFrom : List UInt8 := [102, 114, 111, 109]
def wWrote : List UInt8 := [119, 114, 111, 116, 101]
def lineF (i : Int) (e : EvT) : List UInt8 := (((((headF i e ++ placeF e) ++ seqF e.2.2.1) ++ wholeF e.2.2.2.1) ++ partT wRead e.2.2.2.2.2.2.2.1) ++ partT wFrom e.2.2.2.2.2.2.2.2.2) ++ partT wWrote e.2.2.2.2.2.2.2.2.1
def evs (es : List EvT) : List (List UInt8) := es.mapIdx fun i e => lineF i e
def pairF (p : Int × Int) : List UInt8 := (([101, 100, 103, 101, 32] ++ itoa p.1) ++ [32]) ++ itoa p.2
def eventsF (l : LogT) : List (List UInt8) := evs l.1 ++ l.2.map pairF

theorem evs_snoc (es : List EvT) (e : EvT) : evs (es ++ [e]) = evs es ++ [lineF es.length e] := by
  unfold evs
  rw [List.mapIdx_append]
  simp
theorem evs_len (es : List EvT) : (evs es).length = es.length := by unfold evs; simp

/-- Its lists are short. -/
def EvOk (e : EvT) : Prop := e.2.2.2.2.2.2.2.1.length ≤ 20000 ∧ e.2.2.2.2.2.2.2.2.1.length ≤ 20000 ∧ e.2.2.2.2.2.2.2.2.2.length ≤ 20000
def LogOk (l : LogT) : Prop := l.1.length ≤ 40 ∧ l.2.length ≤ 40 ∧ ∀ e ∈ l.1, EvOk e

theorem take_all {α : Type} {l : List α} {i : Nat} (h : l.length ≤ i) : l.take i = l := List.take_of_length_le h

theorem few_ok (l : LogT) : (R.renlaw14_Few l 40).sat fun r => r = true → LogOk l := by
  unfold R.renlaw14_Few
  refine law_given fun _ => law_bind' (R := fun n : Int => l.1.length ≤ 40 → n ≤ 20000 → ∀ e ∈ l.1, EvOk e) ?_ fun n hn => ?_
  · refine law_for (fun a : Int × Int => a.2) 41 (by omega) (fun a : Int × Int => ∃ i : Nat, a.2 = i ∧ i ≤ l.1.length ∧ i ≤ 41 ∧ (0 ≤ a.1 ∧ a.1 ≤ 60003 * i) ∧ ∀ e ∈ l.1.take i, ((min e.2.2.2.2.2.2.2.1.length 20001 : Nat) : Int) ≤ a.1 ∧ ((min e.2.2.2.2.2.2.2.2.1.length 20001 : Nat) : Int) ≤ a.1 ∧ ((min e.2.2.2.2.2.2.2.2.2.length 20001 : Nat) : Int) ≤ a.1) ⟨0, rfl, Nat.zero_le _, by omega, by simp, by simp⟩ ?_ ?_
    · rintro ⟨x, y⟩ ⟨i, h1, _, h2, _⟩
      simp only at h1 ⊢; omega
    · rintro ⟨x, y⟩ ⟨i, h1, h2, h3, ⟨h4, h5⟩, h6⟩
      simp only at h1 h4 h5 h6 ⊢
      subst h1
      refine law_bind' (R := fun c => c = decide (i < l.1.length ∧ i ≤ 40)) ?_ fun c hc => ?_
      · refine law_br (fun h => law_ok ?_) fun h => law_ok ?_
        · rw [ilt_true] at h
          rw [Bool.eq_iff_iff, ile_true, decide_eq_true_eq]; omega
        · rw [ilt_false] at h
          rw [Bool.eq_iff_iff]; simp; omega
      subst hc
      refine law_br (fun h => ?_) fun h => ?_
      · rw [decide_eq_true_eq] at h
        refine law_idxS (by omega) (by omega) fun e3 he3 _ => law_idxS (by omega) (by omega) fun e4 he4 _ => law_idxS (by omega) (by omega) fun e5 he5 _ => law_ok ?_
        have he3 : l.1[i]? = some e3 := he3
        have he4 : l.1[i]? = some e4 := he4
        have he5 : l.1[i]? = some e5 := he5
        rw [he3] at he4 he5
        cases he4
        cases he5
        simp only [minI_eq]
        generalize hA : ((min (e3.2.2.2.2.2.2.2.1.length : Int) 20001) : Int) = A
        generalize hB : ((min (e3.2.2.2.2.2.2.2.2.1.length : Int) 20001) : Int) = B
        generalize hC : ((min (e3.2.2.2.2.2.2.2.2.2.length : Int) 20001) : Int) = C
        have ei : IntKind.wrap .i64 ((i : Int) + 1) = ((i + 1 : Nat) : Int) := wrap64 ⟨by omega, by omega⟩
        have e1 : IntKind.wrap .i64 (IntKind.wrap .i64 (IntKind.wrap .i64 (x + A) + B) + C) = x + A + B + C := by
          rw [wrap64 (n := x + A) ⟨by omega, by omega⟩, wrap64 (n := x + A + B) ⟨by omega, by omega⟩, wrap64 ⟨by omega, by omega⟩]
        rw [ei, e1]
        refine ⟨rfl, i + 1, rfl, by omega, by omega, ⟨by omega, by omega⟩, fun e he => ?_⟩
        rw [take_snoc he3] at he
        rcases List.mem_append.1 he with he | he
        · have := h6 e he; omega
        · simp only [List.mem_singleton] at he
          subst he
          omega
      · rw [decide_eq_false_iff_not] at h
        refine law_ok fun hl hn e he => ?_
        have := h6 e (by rw [take_all (by omega)]; exact he)
        unfold EvOk
        omega
  · refine law_br (fun h => law_br (fun h' => law_ok fun h2 => ?_) fun _ => law_ok fun h => by cases h) fun _ => law_ok fun h => by cases h
    rw [ile_true] at h h' h2
    exact ⟨by omega, by omega, hn (by omega) h2⟩

theorem part_len {w : List UInt8} {ns : List Int} {l : List UInt8} {k : Nat} (h : (l ++ partT w ns).length ≤ k) : l.length + (partT w ns).length ≤ k := by rw [← List.length_append]; exact h

theorem line_ok {i : Int} {e : EvT} (he : EvOk e) {K : List UInt8 → Res (Res.Step (List (List UInt8) × Int) (List (List UInt8)))} {Q : Res.Step (List (List UInt8) × Int) (List (List UInt8)) → Prop} (hK : (K (lineF i e)).sat Q) :
    (Res.bind (R.script_line_number ([] : List UInt8) [i, e.1]) fun r3 => Res.given (script_line_number.okOut r3) (Res.bind (R.script_kind e.2.1) fun r4 => Res.given (script_kind.okOut r4) (Res.bind (R.script_line_word r3.2 r4) fun r5 => Res.given (script_line_word.okOut r5) (Res.bind (α := (List UInt8)) (Res.br (!(e.2.1 == 0)) (Res.bind (R.script_line_number r5.2 [e.2.2.2.2.1, e.2.2.2.2.2.1, e.2.2.2.2.2.2.1]) fun r6 => Res.given (script_line_number.okOut r6) (Res.ok (r6.2))) (Res.ok (r5.2))) fun x7 => Res.bind (α := (List UInt8)) (Res.br e.2.2.1 (Res.bind (R.script_line_word x7 [115, 101, 113]) fun r8 => Res.given (script_line_word.okOut r8) (Res.ok (r8.2))) (Res.ok (x7))) fun x9 => Res.bind (α := (List UInt8)) (Res.br e.2.2.2.1 (Res.bind (R.script_line_word x9 [119, 104, 111, 108, 101]) fun r10 => Res.given (script_line_word.okOut r10) (Res.ok (r10.2))) (Res.ok (x9))) fun x11 => Res.bind (R.script_line_bytes x11 [114, 101, 97, 100] e.2.2.2.2.2.2.2.1) fun r12 => Res.given (script_line_bytes.okOut r12) (Res.bind (α := (List UInt8)) (Res.br (ilt 0 (e.2.2.2.2.2.2.2.2.2.length : Int)) (Res.bind (R.script_line_word r12.2 [102, 114, 111, 109]) fun r13 => Res.given (script_line_word.okOut r13) (Res.bind (R.script_line_number r13.2 e.2.2.2.2.2.2.2.2.2) fun r14 => Res.given (script_line_number.okOut r14) (Res.ok (r14.2)))) (Res.ok (r12.2))) fun x15 => Res.bind (R.script_line_bytes x15 [119, 114, 111, 116, 101] e.2.2.2.2.2.2.2.2.1) fun r16 => Res.given (script_line_bytes.okOut r16) (Res.bind (sbGetRun r16.2) fun r17 => Res.given (sbGet.okOut r17) (K r17))))))).sat Q := by
  obtain ⟨hr, hw, hf⟩ := he
  refine law_bind' (number_line (by simp) (by simp)) fun r3 h3 => law_given fun _ => law_bind_eq (kind_ok _) (law_given fun _ => ?_)
  obtain ⟨rfl, l3⟩ := h3
  rw [numW_nil] at l3 ⊢
  have hk := kindW_len e.2.1
  simp only [List.length_nil, List.length_cons] at l3
  refine law_bind_eq (word_ok (by simp only; omega)) (law_given fun _ => ?_)
  have hne3 : itoa i ++ tailN [e.1] ≠ [] := by simp [itoa_nonil]
  rw [addW_ne hne3]
  have hH : (headF i e).length ≤ 100 ∧ headF i e ≠ [] := by
    refine ⟨?_, by unfold headF; simp⟩
    unfold headF
    simp only [List.length_append, List.length_singleton] at l3 ⊢; omega
  have hHe : (itoa i ++ tailN [e.1]) ++ ([32] ++ kindW e.2.1) = headF i e := rfl
  rw [hHe]
  unfold lineF at hK
  generalize headF i e = H at hH hK ⊢
  -- its place
  refine law_bind' (R := fun x : List UInt8 => x = H ++ placeF e ∧ x.length ≤ 200) ?_ fun x hx => ?_
  · unfold placeF
    refine law_br (fun h => ?_) fun h => ?_
    · have h : ¬ e.2.1 = 0 := by simpa using h
      rw [if_neg h]
      refine law_bind' (number_line (by simp only; omega) (by simp)) fun r hr => law_given fun _ => ?_
      obtain ⟨rfl, hl⟩ := hr
      have hl : (numW H [e.2.2.2.2.1, e.2.2.2.2.2.1, e.2.2.2.2.2.2.1]).length ≤ H.length + 22 * 3 := hl
      refine law_ok ⟨numW_ne _ hH.2, ?_⟩
      show (numW H _).length ≤ _
      omega
    · have h : e.2.1 = 0 := by simpa using h
      rw [if_pos h]
      exact law_ok ⟨by simp, by show H.length ≤ _; omega⟩
  obtain ⟨hx, hxl⟩ := hx
  have hx0 : x ≠ [] := by rw [hx]; simp [hH.2]
  rw [← hx] at hK
  clear hx
  -- its marks
  refine law_bind' (R := fun y : List UInt8 => y = x ++ seqF e.2.2.1 ∧ y.length ≤ 210) ?_ fun y hy => ?_
  · unfold seqF
    refine law_br (fun h => law_bind_eq (word_ok (by simp; omega)) (law_given fun _ => law_ok ?_)) fun h => law_ok ?_
    · rw [if_pos h, addW_ne hx0]
      exact ⟨rfl, by simp; omega⟩
    · rw [h]
      exact ⟨by simp, by omega⟩
  obtain ⟨hy, hyl⟩ := hy
  have hy0 : y ≠ [] := by rw [hy]; simp [hx0]
  rw [← hy] at hK
  clear hy
  refine law_bind' (R := fun z : List UInt8 => z = y ++ wholeF e.2.2.2.1 ∧ z.length ≤ 220) ?_ fun z hz => ?_
  · unfold wholeF
    refine law_br (fun h => law_bind_eq (word_ok (by simp; omega)) (law_given fun _ => law_ok ?_)) fun h => law_ok ?_
    · rw [if_pos h, addW_ne hy0]
      exact ⟨rfl, by simp; omega⟩
    · rw [h]
      exact ⟨by simp, by omega⟩
  obtain ⟨hz, hzl⟩ := hz
  have hz0 : z ≠ [] := by rw [hz]; simp [hy0]
  rw [← hz] at hK
  clear hz
  -- its bytes
  refine law_bind' (bytes_line (w := wRead) hz0 (by omega) (by decide) (by omega)) fun r hr => law_given fun _ => ?_
  obtain ⟨rfl, hrl⟩ := hr
  show Res.sat (Res.bind (Res.br _ (Res.bind (R.script_line_word (z ++ partT wRead e.2.2.2.2.2.2.2.1) _) _) (Res.ok (z ++ partT wRead e.2.2.2.2.2.2.2.1))) _) Q
  have hu0 : z ++ partT wRead e.2.2.2.2.2.2.2.1 ≠ [] := by simp [hz0]
  generalize hu : z ++ partT wRead e.2.2.2.2.2.2.2.1 = u at hrl hu0 hK ⊢
  refine law_bind' (R := fun v : List UInt8 => v = u ++ partT wFrom e.2.2.2.2.2.2.2.2.2 ∧ v.length ≤ u.length + 11 + 22 * e.2.2.2.2.2.2.2.2.2.length) ?_ fun v hv => ?_
  · unfold partT
    refine law_br (fun h => ?_) fun h => ?_
    · rw [ilt_true] at h
      have hne : e.2.2.2.2.2.2.2.2.2 ≠ [] := by
        intro h0
        rw [h0] at h
        simp at h
      rw [if_neg hne]
      refine law_bind_eq (word_ok (by simp; omega)) (law_given fun _ => ?_)
      rw [addW_ne hu0]
      have hq0 : u ++ ([32] ++ [102, 114, 111, 109]) ≠ [] := by simp
      have hql : (u ++ ([32] ++ [102, 114, 111, 109])).length = u.length + 5 := by simp
      refine law_bind' (number_line (l := u ++ ([32] ++ [102, 114, 111, 109])) (by omega) (by omega)) fun r hr => law_given fun _ => ?_
      obtain ⟨rfl, hl⟩ := hr
      refine law_ok ⟨?_, ?_⟩
      · show numW _ _ = _
        rw [numW_ne _ hq0]
        simp only [wFrom, List.append_assoc]
      · show (numW _ _).length ≤ _
        omega
    · rw [ilt_false] at h
      have h0 : e.2.2.2.2.2.2.2.2.2 = [] := List.eq_nil_of_length_eq_zero (by omega)
      rw [if_pos h0]
      exact law_ok ⟨by simp, by show u.length ≤ _; omega⟩
  obtain ⟨hv, hvl⟩ := hv
  have hv0 : v ≠ [] := by rw [hv]; simp [hu0]
  rw [← hv] at hK
  clear hv
  refine law_bind' (bytes_line (w := wWrote) hv0 (by omega) (by decide) (by omega)) fun r hr => law_given fun _ => ?_
  obtain ⟨rfl, hrl2⟩ := hr
  refine law_bind_eq (a := v ++ partT wWrote e.2.2.2.2.2.2.2.2.1) (law_need (sOk (by show (v ++ partT wWrote e.2.2.2.2.2.2.2.2.1).length ≤ _; omega)) (law_ok rfl)) (law_given fun _ => hK)

theorem events_ok {l : LogT} (hl : LogOk l) : (R.script_Events l).sat (· = eventsF l) := by
  unfold R.script_Events
  obtain ⟨h1, h2, h3⟩ := hl
  refine law_given fun _ => law_bind' (R := fun o : List (List UInt8) => o = evs l.1) ?_ fun o ho => ?_
  · refine law_for (fun a : List (List UInt8) × Int => a.2) l.1.length (by omega) (fun a : List (List UInt8) × Int => ∃ i : Nat, a.2 = i ∧ i ≤ l.1.length ∧ a.1 = evs (l.1.take i)) ⟨0, rfl, Nat.zero_le _, rfl⟩ ?_ ?_
    · rintro ⟨x, y⟩ ⟨i, g1, g2, _⟩
      simp only at g1 ⊢; omega
    · rintro ⟨x, y⟩ ⟨i, g1, g2, g3⟩
      simp only at g1 g3 ⊢
      subst g1 g3
      refine law_br (fun h => ?_) fun h => law_ok ?_
      · rw [ilt_true] at h
        refine law_idxS (by omega) (by omega) fun e he _ => ?_
        have he : l.1[i]? = some e := he
        refine line_ok (K := fun r17 => _) (h3 e (List.mem_of_getElem? he)) ?_
        have hlen : (evs (l.1.take i)).length = i := by rw [evs_len, List.length_take]; omega
        refine law_need (okSlot (by omega)) (law_ok ?_)
        have ei : IntKind.wrap .i64 ((i : Int) + 1) = ((i + 1 : Nat) : Int) := wrap64 ⟨by omega, by omega⟩
        refine ⟨by rw [ei]; rfl, i + 1, ei, by omega, ?_⟩
        rw [take_snoc he, evs_snoc, List.length_take, show min i l.1.length = i by omega]
      · rw [ilt_false] at h
        rw [take_all (by omega)]
  subst ho
  refine law_bind' (R := fun o : List (List UInt8) => o = eventsF l) ?_ fun o ho => law_ok ho
  refine law_for (fun a : List (List UInt8) × Int => a.2) l.2.length (by omega) (fun a : List (List UInt8) × Int => ∃ i : Nat, a.2 = i ∧ i ≤ l.2.length ∧ a.1 = evs l.1 ++ (l.2.take i).map pairF) ⟨0, rfl, Nat.zero_le _, by simp⟩ ?_ ?_
  · rintro ⟨x, y⟩ ⟨i, g1, g2, _⟩
    simp only at g1 ⊢; omega
  · rintro ⟨x, y⟩ ⟨i, g1, g2, g3⟩
    simp only at g1 g3 ⊢
    subst g1
    have hlen : x.length ≤ 80 := by rw [g3, List.length_append, evs_len, List.length_map, List.length_take]; omega
    refine law_br (fun h => ?_) fun h => law_ok ?_
    · rw [ilt_true] at h
      refine law_idxS (by omega) (by omega) fun e he hok => ?_
      have he : l.2[i]? = some e := he
      have hok : (inRange .i64 e.1 && inRange .i64 e.2) = true := hok
      simp only [Bool.and_eq_true, range64] at hok
      have i1 := itoa_len hok.1.1 hok.1.2
      have i2 := itoa_len hok.2.1 hok.2.2
      refine law_bind_ok rfl (law_given fun _ => law_need (sOk (by simp; omega)) (law_need (sOk (by simp; omega)) (law_bind_ok rfl (law_given fun _ => law_need (sOk (by simp; omega)) (law_need (okSlot (by omega)) (law_ok ?_))))))
      have ei : IntKind.wrap .i64 ((i : Int) + 1) = ((i + 1 : Nat) : Int) := wrap64 ⟨by omega, by omega⟩
      refine ⟨by rw [ei]; rfl, i + 1, ei, by omega, ?_⟩
      rw [take_snoc he, List.map_append, ← List.append_assoc, ← g3]
      rfl
    · rw [ilt_false] at h
      rw [take_all (by omega)] at g3
      exact g3
end Go.Mach

/-
  A log as lines: the document.
-/
set_option maxRecDepth 10000
namespace Go.Mach
open Res Lib

theorem ev_ok {e : EvT} (h : T_event_Event.ok e = true) : (-9223372036854775808 ≤ e.1 ∧ e.1 < 9223372036854775808) ∧ (-9223372036854775808 ≤ e.2.2.2.2.1 ∧ e.2.2.2.2.1 < 9223372036854775808) ∧ (-9223372036854775808 ≤ e.2.2.2.2.2.1 ∧ e.2.2.2.2.2.1 < 9223372036854775808) ∧ (-9223372036854775808 ≤ e.2.2.2.2.2.2.1 ∧ e.2.2.2.2.2.2.1 < 9223372036854775808) := by
  have h : (inRange .i64 e.1 && (inRange .i64 e.2.1 && (true && (true && (inRange .i64 e.2.2.2.2.1 && (inRange .i64 e.2.2.2.2.2.1 && (inRange .i64 e.2.2.2.2.2.2.1 && _))))))) = true := h
  simp only [Bool.and_eq_true, range64] at h
  exact ⟨h.1, h.2.2.2.2.1, h.2.2.2.2.2.1, h.2.2.2.2.2.2.1⟩

theorem refBytes_ok {w : List UInt8} {bs : List Int} (hw : w.length ≤ 10) (hn : bs.length ≤ 100000) : (R.renref24_bytes w bs).sat fun r => r = partT w bs ∧ r.length ≤ 11 + 22 * bs.length := by
  unfold R.renref24_bytes
  refine law_given fun _ => law_bind' (R := fun r : List UInt8 => r = tailN bs ∧ r.length ≤ 22 * bs.length) ?_ fun r hr => ?_
  · refine law_for (fun a : List UInt8 × Int => a.2) bs.length (by omega) (fun a : List UInt8 × Int => ∃ i : Nat, a.2 = i ∧ i ≤ bs.length ∧ a.1 = tailN (bs.take i) ∧ a.1.length ≤ 22 * i) ⟨0, rfl, Nat.zero_le _, rfl, by simp⟩ ?_ ?_
    · rintro ⟨x, y⟩ ⟨i, h1, h2, _⟩
      simp only at h1 ⊢; omega
    · rintro ⟨y, x⟩ ⟨i, h1, h2, h3, h4⟩
      simp only at h1 h3 h4 ⊢
      subst h1
      refine law_br (fun h => ?_) fun h => ?_
      · rw [ilt_true] at h
        refine law_idxS (by omega) (by omega) fun e he hr => ?_
        have hr := range8 hr
        have he : bs[i]? = some e := he
        have hlen := itoa_len (n := e) (by omega) (by omega)
        rw [wrap64 (n := e) ⟨by omega, by omega⟩]
        refine law_bind_eq (dec_ok (by omega) (by omega)) (law_given fun _ => law_need (sOk (by simp; omega)) (law_need (sOk (by simp; omega)) (law_ok ?_)))
        have ei : IntKind.wrap .i64 ((i : Int) + 1) = ((i + 1 : Nat) : Int) := wrap64 ⟨by omega, by omega⟩
        refine ⟨by rw [ei]; rfl, i + 1, ei, by omega, ?_, ?_⟩
        · rw [take_snoc he, tailN_snoc, ← h3]
        · show (y ++ ([32] ++ itoa e)).length ≤ _
          simp only [List.length_append, List.length_singleton]; omega
      · rw [ilt_false] at h
        have : i = bs.length := by omega
        subst this
        rw [List.take_length] at h3
        exact law_ok ⟨h3, h4⟩
  · obtain ⟨rfl, hl⟩ := hr
    unfold partT
    refine law_br (fun h => law_ok ?_) fun h => law_need (sOk (by simp; omega)) (law_need (sOk (by simp; omega)) (law_ok ?_))
    · have h : tailN bs = [] := by simpa using h
      rw [if_pos (tailN_nil.1 h)]
      exact ⟨rfl, by simp⟩
    · have h : ¬ tailN bs = [] := by simpa using h
      rw [if_neg (fun e => h (tailN_nil.2 e))]
      exact ⟨rfl, by simp only [List.length_append, List.length_singleton]; omega⟩

theorem kind_list {k : Int} (h0 : 0 ≤ k) (h3 : k ≤ 3) : ([[115, 121, 110, 99], [108, 111, 97, 100], [115, 116, 111, 114, 101], [99, 104, 97, 110, 103, 101]] : List (List UInt8))[(0 + (k.toNat : Int)).toNat]? = some (kindW k) := by
  have : k = 0 ∨ k = 1 ∨ k = 2 ∨ k = 3 := by omega
  rcases this with rfl | rfl | rfl | rfl <;> rfl

theorem refLine_ok {i : Int} {e : EvT} (hi : 0 ≤ i ∧ i ≤ 100) (he : EvOk e) (hok : T_event_Event.ok e = true) {K : List UInt8 → Res (Res.Step (List (List UInt8) × Int) (List (List UInt8)))} {Q : Res.Step (List (List UInt8) × Int) (List (List UInt8)) → Prop} (hK : (K (lineF i e)).sat Q) :
    (Res.bind (α := (List UInt8)) (Res.bind (α := Bool) (Res.br (ile 0 e.2.1) (Res.ok ((ile e.2.1 3))) (Res.ok (false))) fun x3 => Res.br x3 (Res.need (ile 0 e.2.1 && ilt e.2.1 [[115, 121, 110, 99], [108, 111, 97, 100], [115, 116, 111, 114, 101], [99, 104, 97, 110, 103, 101]].length) (Res.idx .str [[115, 121, 110, 99], [108, 111, 97, 100], [115, 116, 111, 114, 101], [99, 104, 97, 110, 103, 101]] (0 + Int.toNat e.2.1) fun e4 => Res.ok (e4))) (Res.ok ([63]))) fun k5 => Res.bind (R.renref_Dec fuel i) fun r6 => Res.given (renref_Dec.okOut r6) (Res.need (strOk (r6.length + [32].length)) (Res.bind (R.renref_Dec fuel e.1) fun r7 => Res.given (renref_Dec.okOut r7) (Res.need (strOk ((r6 ++ [32]).length + r7.length)) (Res.need (strOk (((r6 ++ [32]) ++ r7).length + [32].length)) (Res.need (strOk ((((r6 ++ [32]) ++ r7) ++ [32]).length + k5.length)) (Res.bind (α := (List UInt8)) (Res.br (!(e.2.1 == 0)) (Res.bind (R.renref_Dec fuel e.2.2.2.2.1) fun r8 => Res.given (renref_Dec.okOut r8) (Res.need (strOk ([32].length + r8.length)) (Res.need (strOk (([32] ++ r8).length + [32].length)) (Res.bind (R.renref_Dec fuel e.2.2.2.2.2.1) fun r9 => Res.given (renref_Dec.okOut r9) (Res.need (strOk ((([32] ++ r8) ++ [32]).length + r9.length)) (Res.need (strOk (((([32] ++ r8) ++ [32]) ++ r9).length + [32].length)) (Res.bind (R.renref_Dec fuel e.2.2.2.2.2.2.1) fun r10 => Res.given (renref_Dec.okOut r10) (Res.need (strOk ((((([32] ++ r8) ++ [32]) ++ r9) ++ [32]).length + r10.length)) (Res.need (strOk (((((r6 ++ [32]) ++ r7) ++ [32]) ++ k5).length + ((((([32] ++ r8) ++ [32]) ++ r9) ++ [32]) ++ r10).length)) (Res.ok ((((((r6 ++ [32]) ++ r7) ++ [32]) ++ k5) ++ ((((([32] ++ r8) ++ [32]) ++ r9) ++ [32]) ++ r10))))))))))))) (Res.ok (((((r6 ++ [32]) ++ r7) ++ [32]) ++ k5)))) fun s11 => Res.bind (α := (List UInt8)) (Res.br e.2.2.1 (Res.need (strOk (s11.length + [32, 115, 101, 113].length)) (Res.ok ((s11 ++ [32, 115, 101, 113])))) (Res.ok (s11))) fun s12 => Res.bind (α := (List UInt8)) (Res.br e.2.2.2.1 (Res.need (strOk (s12.length + [32, 119, 104, 111, 108, 101].length)) (Res.ok ((s12 ++ [32, 119, 104, 111, 108, 101])))) (Res.ok (s12))) fun s13 => Res.bind (R.renref24_bytes [114, 101, 97, 100] e.2.2.2.2.2.2.2.1) fun r14 => Res.given (renref24_bytes.okOut r14) (Res.need (strOk (s13.length + r14.length)) (Res.bind (Res.loop (α := ((List UInt8) × Int)) (β := (List UInt8)) (fun f15 => Res.br (ilt f15.2 (e.2.2.2.2.2.2.2.2.2.length : Int)) (Res.idx (.int .i64) e.2.2.2.2.2.2.2.2.2 f15.2 fun e16 => Res.bind (R.renref_Dec fuel e16) fun r17 => Res.given (renref_Dec.okOut r17) (Res.need (strOk ([32].length + r17.length)) (Res.need (strOk (f15.1.length + ([32] ++ r17).length)) (Res.ok (.next (((f15.1 ++ ([32] ++ r17)), IntKind.wrap .i64 (f15.2 + 1)))))))) (Res.ok (.done (f15.1)))) fuel (([] : List UInt8), 0)) fun f18 => Res.bind (α := (List UInt8)) (Res.br (!(f18 == ([] : List UInt8))) (Res.need (strOk ([32, 102, 114, 111, 109].length + f18.length)) (Res.need (strOk ((s13 ++ r14).length + ([32, 102, 114, 111, 109] ++ f18).length)) (Res.ok (((s13 ++ r14) ++ ([32, 102, 114, 111, 109] ++ f18)))))) (Res.ok ((s13 ++ r14)))) fun s19 => Res.bind (R.renref24_bytes [119, 114, 111, 116, 101] e.2.2.2.2.2.2.2.2.1) fun r20 => Res.given (renref24_bytes.okOut r20) (Res.need (strOk (s19.length + r20.length)) (K (s19 ++ r20)))))))))))).sat Q := by
  obtain ⟨hr, hw, hf⟩ := he
  obtain ⟨o1, o2, o3, o4⟩ := ev_ok hok
  have n0 := itoa_len (n := i) (by omega) (by omega)
  have n1 := itoa_len o1.1 o1.2
  have n2 := itoa_len o2.1 o2.2
  have n3 := itoa_len o3.1 o3.2
  have n4 := itoa_len o4.1 o4.2
  have hk := kindW_len e.2.1
  refine law_bind_eq (a := kindW e.2.1) ?_ ?_
  · refine law_bind' (R := fun b => b = decide (0 ≤ e.2.1 ∧ e.2.1 ≤ 3)) ?_ fun b hb => ?_
    · refine law_br (fun h => law_ok ?_) fun h => law_ok ?_
      · rw [ile_true] at h
        rw [Bool.eq_iff_iff, ile_true, decide_eq_true_eq]; omega
      · rw [ile_false] at h
        rw [Bool.eq_iff_iff]; simp; omega
    subst hb
    refine law_br (fun h => ?_) fun h => law_ok ?_
    · rw [decide_eq_true_eq] at h
      refine law_need (by simp [ile, ilt]; omega) (idx_at (by omega) (kind_list h.1 h.2) (law_ok rfl))
    · rw [decide_eq_false_iff_not] at h
      unfold kindW
      rw [if_neg (by omega), if_neg (by omega), if_neg (by omega), if_neg (by omega)]
  refine law_bind_eq (dec_ok (by omega) (by omega)) (law_given fun _ => law_need (sOk (by simp; omega)) (law_bind_eq (dec_ok o1.1 o1.2) (law_given fun _ => law_need (sOk (by simp; omega)) (law_need (sOk (by simp; omega)) (law_need (sOk (by simp; omega)) ?_)))))
  have hhead : (((itoa i ++ [32]) ++ itoa e.1) ++ [32]) ++ kindW e.2.1 = headF i e := by
    unfold headF; simp only [tailN, List.append_assoc, List.append_nil]
  have hHl : (headF i e).length ≤ 100 := by rw [← hhead]; simp only [List.length_append, List.length_singleton]; omega
  rw [hhead]
  unfold lineF at hK
  generalize headF i e = H at hHl hK ⊢
  refine law_bind' (R := fun x : List UInt8 => x = H ++ placeF e ∧ x.length ≤ 200) ?_ fun x hx => ?_
  · unfold placeF
    refine law_br (fun h => ?_) fun h => ?_
    · have h : ¬ e.2.1 = 0 := by simpa using h
      rw [if_neg h]
      refine law_bind_eq (dec_ok o2.1 o2.2) (law_given fun _ => law_need (sOk (by simp; omega)) (law_need (sOk (by simp; omega)) (law_bind_eq (dec_ok o3.1 o3.2) (law_given fun _ => law_need (sOk (by simp; omega)) (law_need (sOk (by simp; omega)) (law_bind_eq (dec_ok o4.1 o4.2) (law_given fun _ => law_need (sOk (by simp; omega)) (law_need (sOk (by simp; omega)) (law_ok ⟨?_, ?_⟩)))))))))
      · simp only [tailN, List.append_assoc, List.append_nil]
      · simp only [List.length_append, List.length_singleton]; omega
    · have h : e.2.1 = 0 := by simpa using h
      rw [if_pos h]
      exact law_ok ⟨by simp, by omega⟩
  obtain ⟨hx, hxl⟩ := hx
  rw [← hx] at hK
  clear hx
  refine law_bind' (R := fun y : List UInt8 => y = x ++ seqF e.2.2.1 ∧ y.length ≤ 210) ?_ fun y hy => ?_
  · unfold seqF
    refine law_br (fun h => law_need (sOk (by simp; omega)) (law_ok ?_)) fun h => law_ok ?_
    · rw [if_pos h]
      exact ⟨rfl, by simp; omega⟩
    · rw [h]
      exact ⟨by simp, by omega⟩
  obtain ⟨hy, hyl⟩ := hy
  rw [← hy] at hK
  clear hy
  refine law_bind' (R := fun z : List UInt8 => z = y ++ wholeF e.2.2.2.1 ∧ z.length ≤ 220) ?_ fun z hz => ?_
  · unfold wholeF
    refine law_br (fun h => law_need (sOk (by simp; omega)) (law_ok ?_)) fun h => law_ok ?_
    · rw [if_pos h]
      exact ⟨rfl, by simp; omega⟩
    · rw [h]
      exact ⟨by simp, by omega⟩
  obtain ⟨hz, hzl⟩ := hz
  rw [← hz] at hK
  clear hz
  refine law_bind' (refBytes_ok (w := wRead) (by decide) (by omega)) fun r hr => law_given fun _ => ?_
  obtain ⟨hr1, hrl⟩ := hr
  rw [← hr1] at hK
  clear hr1
  refine law_need (sOk (by omega)) ?_
  have hul : (z ++ r).length ≤ 500000 := by simp only [List.length_append]; omega
  generalize z ++ r = u at hK hul ⊢
  refine law_bind' (R := fun f : List UInt8 => f = tailN e.2.2.2.2.2.2.2.2.2 ∧ f.length ≤ 22 * e.2.2.2.2.2.2.2.2.2.length) ?_ fun f hfr => ?_
  · refine law_for (fun a : List UInt8 × Int => a.2) e.2.2.2.2.2.2.2.2.2.length (by omega) (fun a : List UInt8 × Int => ∃ i : Nat, a.2 = i ∧ i ≤ e.2.2.2.2.2.2.2.2.2.length ∧ a.1 = tailN (e.2.2.2.2.2.2.2.2.2.take i) ∧ a.1.length ≤ 22 * i) ⟨0, rfl, Nat.zero_le _, rfl, by simp⟩ ?_ ?_
    · rintro ⟨x, y⟩ ⟨i, h1, h2, _⟩
      simp only at h1 ⊢; omega
    · rintro ⟨y, x⟩ ⟨i, h1, h2, h3, h4⟩
      simp only at h1 h3 h4 ⊢
      subst h1
      refine law_br (fun h => ?_) fun h => ?_
      · rw [ilt_true] at h
        refine law_idx (by omega) (by omega) fun n hn hr => ?_
        have hr : inRange .i64 n = true := hr
        rw [range64] at hr
        have hn : e.2.2.2.2.2.2.2.2.2[i]? = some n := hn
        have hlen := itoa_len hr.1 hr.2
        refine law_bind_eq (dec_ok hr.1 hr.2) (law_given fun _ => law_need (sOk (by simp; omega)) (law_need (sOk (by simp; omega)) (law_ok ?_)))
        have ei : IntKind.wrap .i64 ((i : Int) + 1) = ((i + 1 : Nat) : Int) := wrap64 ⟨by omega, by omega⟩
        refine ⟨by rw [ei]; rfl, i + 1, ei, by omega, ?_, ?_⟩
        · rw [take_snoc hn, tailN_snoc, ← h3]
        · show (y ++ ([32] ++ itoa n)).length ≤ _
          simp only [List.length_append, List.length_singleton]; omega
      · rw [ilt_false] at h
        rw [take_all (by omega)] at h3
        exact law_ok ⟨h3, by omega⟩
  obtain ⟨hft, hfl⟩ := hfr
  refine law_bind' (R := fun v : List UInt8 => v = u ++ partT wFrom e.2.2.2.2.2.2.2.2.2 ∧ v.length ≤ 1000000) ?_ fun v hv => ?_
  · unfold partT
    refine law_br (fun h => law_need (sOk (by simp; omega)) (law_need (sOk (by simp; omega)) (law_ok ?_))) fun h => law_ok ?_
    · have h : ¬ f = [] := by simpa using h
      rw [if_neg (fun e0 => h (by rw [hft]; exact tailN_nil.2 e0)), hft]
      refine ⟨rfl, ?_⟩
      rw [← hft]
      simp; omega
    · have h : f = [] := by simpa using h
      rw [if_pos (tailN_nil.1 (by rw [← hft]; exact h))]
      exact ⟨by simp, by omega⟩
  obtain ⟨hv, hvl⟩ := hv
  rw [← hv] at hK
  clear hv
  refine law_bind' (refBytes_ok (w := wWrote) (by decide) (by omega)) fun r2 hr2 => law_given fun _ => ?_
  obtain ⟨hr1, hrl2⟩ := hr2
  rw [← hr1] at hK
  exact law_need (sOk (by omega)) hK
end Go.Mach

/-
  The plain law of ScriptEvents.
-/
set_option maxRecDepth 10000
namespace Go.Mach
open Res Lib

theorem refEvents_ok {l : LogT} (hl : LogOk l) : (R.renref24_Events l).sat (· = eventsF l) := by
  unfold R.renref24_Events
  obtain ⟨h1, h2, h3⟩ := hl
  refine law_given fun _ => law_bind' (R := fun o : List (List UInt8) => o = evs l.1) ?_ fun o ho => ?_
  · refine law_for (fun a : List (List UInt8) × Int => a.2) l.1.length (by omega) (fun a : List (List UInt8) × Int => ∃ i : Nat, a.2 = i ∧ i ≤ l.1.length ∧ a.1 = evs (l.1.take i)) ⟨0, rfl, Nat.zero_le _, rfl⟩ ?_ ?_
    · rintro ⟨x, y⟩ ⟨i, g1, g2, _⟩
      simp only at g1 ⊢; omega
    · rintro ⟨x, y⟩ ⟨i, g1, g2, g3⟩
      simp only at g1 g3 ⊢
      subst g1 g3
      refine law_br (fun h => ?_) fun h => law_ok ?_
      · rw [ilt_true] at h
        refine law_idxS (by omega) (by omega) fun e he hok => ?_
        have he : l.1[i]? = some e := he
        refine refLine_ok (K := fun r => Res.need (decide (((evs (l.1.take i)).length + [r].length) * 16 ≤ 2 ^ 47)) (Res.ok (.next ((evs (l.1.take i) ++ [r], IntKind.wrap .i64 ((i : Int) + 1)))))) ⟨by omega, by omega⟩ (h3 e (List.mem_of_getElem? he)) hok ?_
        have hlen : (evs (l.1.take i)).length = i := by rw [evs_len, List.length_take]; omega
        refine law_need (okSlot (by omega)) (law_ok ?_)
        have ei : IntKind.wrap .i64 ((i : Int) + 1) = ((i + 1 : Nat) : Int) := wrap64 ⟨by omega, by omega⟩
        refine ⟨by rw [ei]; rfl, i + 1, ei, by omega, ?_⟩
        rw [take_snoc he, evs_snoc, List.length_take, show min i l.1.length = i by omega]
      · rw [ilt_false] at h
        rw [take_all (by omega)]
  subst ho
  refine law_bind' (R := fun o : List (List UInt8) => o = eventsF l) ?_ fun o ho => law_ok ho
  refine law_for (fun a : List (List UInt8) × Int => a.2) l.2.length (by omega) (fun a : List (List UInt8) × Int => ∃ i : Nat, a.2 = i ∧ i ≤ l.2.length ∧ a.1 = evs l.1 ++ (l.2.take i).map pairF) ⟨0, rfl, Nat.zero_le _, by simp⟩ ?_ ?_
  · rintro ⟨x, y⟩ ⟨i, g1, g2, _⟩
    simp only at g1 ⊢; omega
  · rintro ⟨x, y⟩ ⟨i, g1, g2, g3⟩
    simp only at g1 g3 ⊢
    subst g1
    have hlen : x.length ≤ 80 := by rw [g3, List.length_append, evs_len, List.length_map, List.length_take]; omega
    refine law_br (fun h => ?_) fun h => law_ok ?_
    · rw [ilt_true] at h
      refine law_idxS (by omega) (by omega) fun e he hok => ?_
      have he : l.2[i]? = some e := he
      have hok : (inRange .i64 e.1 && inRange .i64 e.2) = true := hok
      simp only [Bool.and_eq_true, range64] at hok
      have i1 := itoa_len hok.1.1 hok.1.2
      have i2 := itoa_len hok.2.1 hok.2.2
      refine law_bind_eq (dec_ok hok.1.1 hok.1.2) (law_given fun _ => law_need (sOk (by simp; omega)) (law_need (sOk (by simp; omega)) (law_idxS (by omega) (by omega) fun e' he' _ => ?_)))
      have he' : l.2[i]? = some e' := he'
      rw [he] at he'
      cases he'
      refine law_bind_eq (dec_ok hok.2.1 hok.2.2) (law_given fun _ => law_need (sOk (by simp; omega)) (law_need (okSlot (by omega)) (law_ok ?_)))
      have ei : IntKind.wrap .i64 ((i : Int) + 1) = ((i + 1 : Nat) : Int) := wrap64 ⟨by omega, by omega⟩
      refine ⟨by rw [ei]; rfl, i + 1, ei, by omega, ?_⟩
      rw [take_snoc he, List.map_append, ← List.append_assoc, ← g3]
      rfl
    · rw [ilt_false] at h
      rw [take_all (by omega)] at g3
      exact g3

theorem log_ok {l : LogT} (hl : l.1.length ≤ 40) : (R.renlaw14_Log l).sat (· = l) := by
  unfold R.renlaw14_Log
  refine law_given fun _ => law_bind' (R := fun x : LogT => x.1 = l.1) ?_ fun x hx => law_ok (Prod.ext hx rfl)
  refine law_for (fun a : Int × LogT => a.1) l.1.length (by omega) (fun a : Int × LogT => ∃ i : Nat, a.1 = i ∧ i ≤ l.1.length ∧ a.2.1 = l.1.take i) ⟨0, rfl, Nat.zero_le _, rfl⟩ ?_ ?_
  · rintro ⟨x, y⟩ ⟨i, g1, g2, _⟩
    simp only at g1 ⊢; omega
  · rintro ⟨x, y⟩ ⟨i, g1, g2, g3⟩
    simp only at g1 g3 ⊢
    subst g1
    refine law_br (fun h => ?_) fun h => law_ok ?_
    · rw [ilt_true] at h
      refine law_idx (by omega) (by omega) fun e he _ => ?_
      have he : l.1[i]? = some e := he
      have hev : (R.renlaw14_Event e).sat (· = e) := by unfold R.renlaw14_Event; exact law_given fun _ => law_ok rfl
      refine law_bind_eq hev (law_given fun _ => law_need ?_ (law_ok ?_))
      · rw [decide_eq_true_eq, g3]; simp only [List.length_singleton, List.length_take]; omega
      · have ei : IntKind.wrap .i64 ((i : Int) + 1) = ((i + 1 : Nat) : Int) := wrap64 ⟨by omega, by omega⟩
        refine ⟨by rw [ei]; rfl, i + 1, ei, by omega, ?_⟩
        rw [take_snoc he, g3]
    · rw [ilt_false] at h
      rw [take_all (by omega)] at g3
      exact g3

theorem texts_ok {a : List (List UInt8)} (hl : a.length ≤ 1000) : (R.renref_Texts a a).sat (· = true) := by
  unfold R.renref_Texts
  refine law_given fun _ => law_f (by simp) (law_bind_eq (a := .inl ()) ?_ (law_inl (law_ok rfl)))
  refine law_for (fun i : Int => i) a.length (by omega) (fun i : Int => 0 ≤ i ∧ i ≤ a.length) ⟨by omega, by omega⟩ (fun i h => h) ?_
  rintro i ⟨i0, i1⟩
  refine law_br (fun h => ?_) fun _ => law_ok rfl
  rw [ilt_true] at h
  refine law_idxS i0 (by omega) fun e2 h2 _ => law_idxS i0 (by omega) fun e3 h3 _ => ?_
  rw [h2] at h3
  cases h3
  have ei : IntKind.wrap .i64 (i + 1) = i + 1 := wrap64 ⟨by omega, by omega⟩
  exact law_f (by simp) (law_ok ⟨ei, by rw [ei]; omega, by rw [ei]; omega⟩)

theorem eventsF_len (l : LogT) : (eventsF l).length = l.1.length + l.2.length := by
  unfold eventsF; rw [List.length_append, evs_len, List.length_map]

theorem events_law (l : LogT) : (R.renlaw26_ScriptEvents l).sat (· = true) := by
  unfold R.renlaw26_ScriptEvents
  refine law_given fun _ => law_bind_ok first_ok (law_f rfl (law_bind' (few_ok l) fun c hc => law_br (fun _ => law_bind_ok first_ok (law_ok rfl)) fun h => ?_))
  have hl := hc (by simpa using h)
  have hlen := eventsF_len l
  have h1 := hl.1
  have h2 := hl.2.1
  exact law_bind_ok first_ok (law_t rfl (law_bind_eq (events_ok hl) (law_given fun _ => law_bind_eq (log_ok h1) (law_given fun _ => law_bind_eq (refEvents_ok hl) (law_given fun _ => law_bind_eq (texts_ok (by omega)) (law_ok rfl))))))

theorem evs_at {es : List EvT} {i : Nat} {e : EvT} (h : es[i]? = some e) : (evs es)[i]? = some (lineF i e) := by
  unfold evs
  rw [List.getElem?_mapIdx, h]; rfl

theorem counts_law (l : LogT) : (R.renlaw26_ScriptCounts l).sat (· = true) := by
  unfold R.renlaw26_ScriptCounts
  refine law_given fun _ => law_bind_ok first_ok (law_f rfl (law_bind' (few_ok l) fun c hc => law_br (fun _ => law_bind_ok first_ok (law_ok rfl)) fun h => ?_))
  have hl := hc (by simpa using h)
  have hlen := eventsF_len l
  have h1 := hl.1
  have h2 := hl.2.1
  refine law_bind_eq (events_ok hl) (law_given fun _ => law_f ?_ ?_)
  · rw [hlen, wrap64 ⟨by omega, by omega⟩]; simp
  refine law_bind_eq (a := .inl ()) ?_ (law_inl (law_bind_ok first_ok (law_ok rfl)))
  refine law_for (fun i : Int => i) l.1.length (by omega) (fun i : Int => 0 ≤ i ∧ i ≤ l.1.length) ⟨by omega, by omega⟩ (fun i h => h) ?_
  rintro i ⟨i0, i1⟩
  refine law_br (fun h => ?_) fun _ => law_ok rfl
  rw [ilt_true] at h
  have hn := itoa_len (n := i) (by omega) (by omega)
  refine law_bind_eq (dec_ok (by omega) (by omega)) (law_given fun _ => law_need (sOk (by simp; omega)) ?_)
  have hlt : i.toNat < l.1.length := by omega
  have he : l.1[i.toNat]? = some l.1[i.toNat] := List.getElem?_eq_getElem hlt
  generalize l.1[i.toNat] = e at he
  have hx : (eventsF l)[(0 + (i.toNat : Int)).toNat]? = some (lineF i e) := by
    have hi : (0 + (i.toNat : Int)).toNat = i.toNat := by omega
    have hlt2 : i.toNat < (evs l.1).length := by rw [evs_len]; exact hlt
    unfold eventsF
    rw [hi, List.getElem?_append_left hlt2, evs_at he]
    rw [show ((i.toNat : Nat) : Int) = i by omega]
  have hpre : ∃ r, lineF i e = (itoa i ++ [32]) ++ r := by
    unfold lineF headF
    simp only [tailN, List.append_assoc]
    exact ⟨_, rfl⟩
  obtain ⟨r, hr⟩ := hpre
  rw [hr] at hx
  have hneed : (ile 0 i && ilt i (eventsF l).length) = true := by simp [ile, ilt]; omega
  refine law_bind_eq (a := false) ?_ (law_f rfl (law_ok ⟨wrap64 ⟨by omega, by omega⟩, by rw [wrap64 ⟨by omega, by omega⟩]; omega, by rw [wrap64 ⟨by omega, by omega⟩]; omega⟩))
  refine law_need hneed (idx_at (by omega) hx (law_f ?_ (law_need hneed (idx_at (by omega) hx (law_need ?_ (law_ok ?_))))))
  · rw [ilt_false]; simp only [List.length_append]; omega
  · simp [ile]; omega
  · show (!(List.take (itoa i ++ [32]).length ((itoa i ++ [32]) ++ r) == itoa i ++ [32])) = false
    rw [List.take_left]; simp
end Go.Mach

/-
  What the rows of these statements share: the bulk, the package-level variables, a world for the witness.
-/
set_option maxRecDepth 100000
namespace Go.Proofs.YtediejlokhnldaaDoor
open Go.Mach Go.ChangeShapes Go.WideShapes Go.ChangeAt Go.RowKit

theorem bulk_part {H : Type} {d : DataW H} {l : List (DataW H)} (h : d ∈ l) : Rows.uptoBulk d ≤ Rows.uptoBulkAll l := by
  induction l with
  | nil => cases h
  | cons x r ih =>
    simp only [Rows.uptoBulkAll]
    cases List.mem_cons.1 h with
    | inl e => subst e; omega
    | inr e => have := ih e; omega
theorem bulk_one {H : Type} (d : DataW H) : 1 ≤ Rows.uptoBulk d := by
  cases d with
  | lit l => cases l <;> simp [Rows.uptoBulk]
  | _ => simp [Rows.uptoBulk]
theorem bulk_len {H : Type} (l : List (DataW H)) : l.length ≤ Rows.uptoBulkAll l := by
  induction l with
  | nil => simp [Rows.uptoBulkAll]
  | cons x r ih => have := bulk_one x; simp only [Rows.uptoBulkAll, List.length_cons]; omega
theorem sm_of {H : Type} : Sm (H := H) 1048576 fun d => Rows.uptoBulk d ≤ 1048576 where
  str b h := by simp only [Rows.uptoBulk] at h; omega
  sl es sp h := by
    simp only [Rows.uptoBulk] at h
    have h1 := bulk_len es
    exact ⟨by omega, fun d hd => by have := bulk_part hd; omega⟩
  agg l h := by
    simp only [Rows.uptoBulk] at h
    exact fun d hd => by have := bulk_part hd; omega
theorem sm_all {H : Type} {ds : List (DataW H)} {gs : List (DataW H)} (h : Rows.uptoSmall H (ds ++ gs) = true) : ∀ d ∈ ds, Rows.uptoBulk d ≤ 1048576 := fun d hd => by
  have h := of_decide_eq_true h
  have := bulk_part (List.mem_append_left gs hd)
  omega

theorem own_knob : ownKnob Tryd.prog.godebug = none := by kernel_rfl
theorem bool_type : Tryd.prog.underlying 4 = some .bool := by kernel_rfl

/-! ### The package-level variables -/

theorem gPowType : (Tryd.prog.globals[3]?).map (·.type) = some 141 := by kernel_rfl
theorem gSynType : (Tryd.prog.globals[1]?).map (·.type) = some 76 := by kernel_rfl
theorem gRngType : (Tryd.prog.globals[2]?).map (·.type) = some 76 := by kernel_rfl
theorem cells141 : Tryd.prog.cellsOf 141 = 20 := by kernel_rfl
theorem cells118 : Tryd.prog.cellsOf 118 = 1 := by kernel_rfl
theorem cells139 : Tryd.prog.cellsOf 139 = 1 := by kernel_rfl
theorem cells9 : Tryd.prog.cellsOf 9 = 1 := by kernel_rfl
theorem star : "*" ++ "errors.errorString" = "*errors.errorString" := by decide
theorem row137 (u : TypeId) (h : Tryd.prog.typeName? 3 u = some "*errors.errorString") : u = 137 :=
  typeName_ptr_named (nm := "errors.errorString") (by rw [star]; kernel_rfl) (by kernel_rfl) (by decide) u (by rw [star]; exact h)

/-- What the rows list. -/
def laids : List (String × DataW Unit) := [("math/bits.deBruijn32tab", Rows.laid_math_bits_deBruijn32tab), ("math/bits.deBruijn64tab", Rows.laid_math_bits_deBruijn64tab), ("internal/strconv.uint64pow10", Rows.laid_internal_strconv_uint64pow10), ("strconv.ErrRange", Rows.laid_strconv_ErrRange), ("strconv.ErrSyntax", Rows.laid_strconv_ErrSyntax)]

theorem globs_at {W : World} (hL : laidMetH Tryd.prog laids W) (hS : W.ShapedOpen Tryd.prog) : globs.At W (Old W) := by
  have h : laidMet Tryd.prog laids W := hL
  have h3 := h.tail.tail
  obtain ⟨a1, s1, hv1, -, -, -⟩ := laid_sentinel h3.tail gRng gRngType Tryd.underlying76 row137 Tryd.underlying137 Tryd.underlying139 rfl rfl Tryd.underlying9 cells139 cells9
  obtain ⟨a2, s2, hv2, -, -, -⟩ := laid_sentinel h3.tail.tail gSyn gSynType Tryd.underlying76 row137 Tryd.underlying137 Tryd.underlying139 rfl rfl Tryd.underlying9 cells139 cells9
  refine ⟨⟨cell_of_shapedOpen_int (zero := #[.int .i64 0]) (t := 3) hS (of_decide_eq_true (by kernel_rfl)) (by kernel_rfl) rfl (by kernel_rfl) (by kernel_rfl) Tryd.underlying3, Lib.tabIs_of_head gPow gPowType Tryd.underlying141 Tryd.underlying118 cells118 cells141 h3, ⟨_, _, hv2⟩, _, _, hv1⟩, fun b hb => ?_⟩
  obtain ⟨o, _, ho, _⟩ := hS.2 6 (of_decide_eq_true (by kernel_rfl)) (of_decide_eq_true (by kernel_rfl))
  have hlt : 6 < W.heap.size := by
    apply Classical.byContradiction
    intro hn
    rw [Array.getElem?_eq_none (by omega)] at ho
    cases ho
  have hb : b < 6 := hb
  show b < W.heap.size
  omega

/-! ### A world for the witness -/

abbrev synS : ByteArray := { data := #[105, 110, 118, 97, 108, 105, 100, 32, 115, 121, 110, 116, 97, 120] }
abbrev rngS : ByteArray := { data := #[118, 97, 108, 117, 101, 32, 111, 117, 116, 32, 111, 102, 32, 114, 97, 110, 103, 101] }
/-- So many blocks has the settled world. -/
noncomputable def low : Nat := (World.holding Tryd.prog default ⟨#[], #[], []⟩).heap.size
/-- A table's cells. -/
def tabCells : DataW Unit → Array Value
  | .agg l => (l.map fun d => match d with
      | .lit (.int k n) => Value.int k n
      | _ => .nilIface).toArray
  | _ => #[]
def withCells (cs : Array Value) : Obj → Obj
  | .cells _ t frozen => .cells cs t frozen
  | o => o
/-- The settled world, the variables as their initialisers lay them. -/
noncomputable def laidWorld (os : Os) : World :=
  let w0 := World.holding Tryd.prog os ⟨#[.cells #[.string synS] 139, .cells #[.string rngS] 139], #[], []⟩
  { w0 with heap := ((((w0.heap.modify 1 (withCells #[.iface 137 (.pointer (some ⟨low, 0, none⟩))])).modify 2 (withCells #[.iface 137 (.pointer (some ⟨low + 1, 0, none⟩))])).modify 3 (withCells (tabCells Rows.laid_internal_strconv_uint64pow10))).modify 4 (withCells (tabCells Rows.laid_math_bits_deBruijn32tab))).modify 5 (withCells (tabCells Rows.laid_math_bits_deBruijn64tab)) }
theorem laid_met (os : Os) (args : Array Value) : laidMet Tryd.prog laids ((laidWorld os).forCall (fun _ _ => 0) ⟨#[], args, []⟩).memory :=
  laidMet_of_run' 80 (by kernel_rfl) (by kernel_rfl)
end Go.Proofs.YtediejlokhnldaaDoor
