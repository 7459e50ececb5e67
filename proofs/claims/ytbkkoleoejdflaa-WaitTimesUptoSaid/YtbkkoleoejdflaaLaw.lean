/-
  Proved here: the law WaitTimes of chapter 22 (behind an expiry nobody waits whose time has come; a later one takes no one twice) returns true for every input of at most 1048576 values and letters.
  Part Law of the texts. By an AI agent; no person has read it.
-/
import Derived.Test.YtbkkoleoejdflaaOks
import Derived.Test.YtbkkoleoejdflaaRows
import Derived.WalkKit
import Derived.ProofKit
import Derived.OpenShut
import Derived.JoinedCond
set_option linter.all false
set_option linter.deprecated false
/-
  What the lists of waiters compute.
-/
set_option maxRecDepth 10000
namespace Go.Mach
open Res

abbrev WT := Int × Int × Bool
abbrev ML := List (List Int × List WT)

def hasF (l : ML) (a : Int) : Bool := l.any fun e => e.2.any fun w => w.1 == a
def getF (l : ML) (k : List Int) : List WT :=
  match keyIx l k with
  | some i => ((l[i]?).map (·.2)).getD []
  | none => []
def setF (l : ML) (k : List Int) (v : List WT) : ML :=
  match keyIx l k with
  | some i => if v.length = 0 then l.eraseIdx i else l.modify i fun kv => (kv.1, v)
  | none => if v.length = 0 then l else l ++ [(k, v)]
def pushF (l : ML) (k : List Int) (w : WT) : ML :=
  match keyIx l k with
  | some i => l.modify i fun kv => (kv.1, kv.2 ++ [w])
  | none => l ++ [(k, [w])]
/-- Is it refused? -/
def badF (b a : Int) (w : WT) : Bool := ilt b 0 || (ilt a 0 || (ilt w.1 0 || (ilt w.2.1 0 || (w.2.2 && !(w.2.1 == 0)))))
def addF (l : ML) (b a : Int) (w : WT) : Int × ML :=
  if badF b a w then (1, l) else if hasF l w.1 then (10, l) else (0, pushF l [b, a] w)
/-- How many are woken. -/
def wakeN (v : List WT) (n : Int) (all : Bool) : Nat := (max (if all || decide ((v.length : Int) < n) then (v.length : Int) else n) 0).toNat
def wakeF (l : ML) (b a n : Int) (all : Bool) : List Int × ML :=
  (((getF l [b, a]).take (wakeN (getF l [b, a]) n all)).map (·.1), setF l [b, a] ((getF l [b, a]).drop (wakeN (getF l [b, a]) n all)))
def placesF (l : ML) : List (Int × Int) := (l.map fun e => (e.1.getD 0 0, e.1.getD 1 0)).mergeSort plLe
/-- Does it stay? -/
def stays (now : Int) (w : WT) : Bool := w.2.2 || decide (now < w.2.1)
def expStep (now : Int) (s : List Int × ML) (k : Int × Int) : List Int × ML :=
  (s.1 ++ ((getF s.2 [k.1, k.2]).filter fun w => !stays now w).map (·.1), setF s.2 [k.1, k.2] ((getF s.2 [k.1, k.2]).filter (stays now)))
def expF (l : ML) (now : Int) : List Int × ML := (placesF l).foldl (expStep now) ([], l)

/-- All is small. -/
def BdL (l : ML) : Prop := l.length ≤ 2 ^ 20 ∧ ∀ e ∈ l, e.2.length ≤ 2 ^ 20

theorem modify_same {α : Type} {xs : List (List Int × α)} {i : Nat} {x : List Int × α} (h : xs[i]? = some x) : (xs.modify i fun kv => (kv.1, x.2)) = xs := by
  refine List.ext_getElem? fun j => ?_
  rw [List.getElem?_modify]
  by_cases e : i = j
  · subst e; rw [h]; simp
  · simp [e]
theorem modify_at {α : Type} {xs : List (List Int × α)} {i : Nat} {x : List Int × α} (h : xs[i]? = some x) (f : α → α) : (xs.modify i fun kv => (kv.1, f x.2)) = xs.modify i fun kv => (kv.1, f kv.2) := by
  refine List.ext_getElem? fun j => ?_
  rw [List.getElem?_modify, List.getElem?_modify]
  by_cases e : i = j
  · subst e; rw [h]; simp
  · simp [e]

theorem modify_last {α : Type} (f : α → α) (x : α) : ∀ (l : List α), (l ++ [x]).modify l.length f = l ++ [f x]
  | [] => rfl
  | a :: l => by
    show (a :: (l ++ [x])).modify (l.length + 1) f = a :: (l ++ [f x])
    rw [List.modify_succ_cons, modify_last f x l]

theorem getF_some {l : ML} {k : List Int} {i : Nat} {x : List Int × List WT} (h : keyIx l k = some i) (hx : l[i]? = some x) : getF l k = x.2 := by
  unfold getF; rw [h]; simp [hx]
theorem getF_none {l : ML} {k : List Int} (h : keyIx l k = none) : getF l k = [] := by unfold getF; rw [h]

theorem new_ok : R.wait_New.sat (· = ([] : ML)) := by
  unfold R.wait_New
  exact law_given fun _ => law_ok rfl

theorem has1_ok (w : WT) (a : Int) : (R.wait_Lists_Has_1 w a).sat (· = (w.1 == a)) := by
  unfold R.wait_Lists_Has_1
  exact law_given fun _ => law_ok rfl

theorem contains_ok (ws : List WT) (a : Int) (hl : ws.length ≤ 2 ^ 40) : (R.slices_ContainsFunc_waitWaiter__wait_Lists_Has_1 ws a).sat (· = ws.any fun w => w.1 == a) := by
  unfold R.slices_ContainsFunc_waitWaiter__wait_Lists_Has_1
  refine law_given fun _ => law_bind' (R := fun r => (ile 0 r) = ws.any fun w => w.1 == a) ?_ fun r hr => law_given fun _ => law_ok hr
  unfold R.slices_IndexFunc_waitWaiter__wait_Lists_Has_1
  refine law_given fun _ => law_bind' (R := fun z => match z with | .inl _ => (ws.any fun w => w.1 == a) = false | .inr c => 0 ≤ c ∧ (ws.any fun w => w.1 == a) = true)
    (law_for (fun x : Int => x) ws.length (by omega) (fun x => 0 ≤ x ∧ x ≤ ws.length ∧ ((ws.take x.toNat).any fun w => w.1 == a) = false) ⟨by omega, by omega, by simp⟩ (fun x h => ⟨h.1, h.2.1⟩) ?_) ?_
  · rintro x ⟨h0, h1, h2⟩
    refine law_br (fun h => ?_) fun h => law_ok ?_
    · rw [ilt_true] at h
      refine law_idxS h0 (by omega) fun w hw _ => law_bind_eq (has1_ok w a) (law_br (fun h3 => law_ok ⟨h0, ?_⟩) fun h3 => law_ok ⟨?_, ?_⟩)
      · rw [List.any_eq_true]
        exact ⟨w, List.mem_of_getElem? hw, h3⟩
      · rw [wrap64 (by omega)]
      · rw [wrap64 (by omega)]
        refine ⟨by omega, by omega, ?_⟩
        rw [show (x + 1).toNat = x.toNat + 1 by omega, List.take_succ, hw, List.any_append, h2]
        simpa using h3
    · rw [ilt_false] at h
      rw [List.take_of_length_le (by omega)] at h2
      exact h2
  · rintro (z | z) hz
    · refine law_inl (law_ok ?_)
      have hz : (ws.any fun w => w.1 == a) = false := hz
      rw [hz]; rfl
    · refine law_inr (law_ok ?_)
      obtain ⟨h0, h1⟩ := hz
      rw [h1]; simp [ile, h0]

theorem has_ok (l : ML) (a : Int) (hb : BdL l) : (R.wait_Lists_Has l a).sat (· = (hasF l a, l)) := by
  unfold R.wait_Lists_Has
  refine law_given fun _ => law_order (hasF l a, l) (fun p hp => ?_) rfl
  have hany : hasF p a = hasF l a := by
    unfold hasF
    rw [Bool.eq_iff_iff, List.any_eq_true, List.any_eq_true]
    exact ⟨fun ⟨x, h1, h2⟩ => ⟨x, hp.mem_iff.1 h1, h2⟩, fun ⟨x, h1, h2⟩ => ⟨x, hp.mem_iff.2 h1, h2⟩⟩
  refine law_bind' (R := fun z => match z with | .next _ => hasF p a = false | .done y => y = true ∧ hasF p a = true) (law_each (fun rest (_ : Unit) => (∀ e ∈ rest, e ∈ l) ∧ hasF p a = hasF rest a) ?_ ?_ p () ⟨fun e he => hp.mem_iff.1 he, rfl⟩) ?_
  · rintro e rest _ ⟨hm, hI⟩
    have hle := hb.2 e (hm e (by simp))
    refine law_bind_eq (contains_ok e.2 a (by omega)) (law_br (fun h => law_ok ⟨rfl, ?_⟩) fun h => law_ok ⟨fun e' he' => hm e' (by simp [he']), ?_⟩)
    · rw [hI]; unfold hasF; rw [List.any_cons, h]; rfl
    · rw [hI]; unfold hasF; rw [List.any_cons, h]; rfl
  · rintro _ ⟨_, hI⟩
    exact hI
  · rintro (_ | y) hz
    · refine law_ok ?_
      have hz : hasF p a = false := hz
      rw [← hany, hz]
    · obtain ⟨rfl, h1⟩ := hz
      refine law_ok ?_
      rw [← hany, h1]

theorem set_ok (l : ML) (k : Int × Int) (v : List WT) : (R.wait_Lists_set l k v).sat (· = ((), setF l [k.1, k.2] v)) := by
  unfold R.wait_Lists_set
  refine law_given fun _ => law_br (fun h => ?_) fun h => ?_
  · have h : v.length = 0 := by simpa using h
    refine law_look (fun i x hi hx _ => law_ok ?_) fun hi => law_ok ?_
    · unfold setF; rw [hi]; simp [h]
    · unfold setF; rw [hi]; simp [h]
  · have h : v.length ≠ 0 := by simpa using h
    refine law_look (fun i x hi hx _ => law_ok ?_) fun hi => law_ok ?_
    · unfold setF; rw [hi]; simp [h]
    · unfold setF; rw [hi]; simp [h]

theorem getF_bd {l : ML} (hb : BdL l) (k : List Int) : (getF l k).length ≤ 2 ^ 20 := by
  unfold getF
  split
  · rename_i i hi
    cases hx : l[i]? with
    | none => simp
    | some x => simp only [Option.map_some, Option.getD_some]; exact hb.2 x (List.mem_of_getElem? hx)
  · simp

theorem add_ok (l : ML) (b a : Int) (w : WT) (hb : BdL l) : (R.wait_Lists_Add l b a w).sat (· = addF l b a w) := by
  unfold R.wait_Lists_Add
  refine law_given fun _ => law_bind_eq (a := badF b a w) ?_ ?_
  · unfold badF
    refine law_br (fun h => law_ok (by rw [h]; rfl)) fun h => law_br (fun h1 => law_ok (by rw [h, h1]; rfl)) fun h1 => law_br (fun h2 => law_ok (by rw [h, h1, h2]; rfl)) fun h2 => law_br (fun h3 => law_ok (by rw [h, h1, h2, h3]; rfl)) fun h3 => law_br (fun h4 => law_ok (by rw [h, h1, h2, h3, h4]; rfl)) fun h4 => law_ok (by rw [h, h1, h2, h3, h4]; rfl)
  · refine law_br (fun h => law_ok (by unfold addF; simp [h])) fun h => law_bind_eq (has_ok l w.1 hb) (law_given fun _ => law_br (fun h1 => law_ok ?_) fun h1 => ?_)
    · have h1 : hasF l w.1 = true := h1
      unfold addF; simp [h, h1]
    · have h1 : hasF l w.1 = false := h1
      refine law_look (fun i x hi hx _ => law_need ?_ (law_ok ?_)) fun hi => law_need ?_ (law_ok ?_)
      · have := hb.2 x (List.mem_of_getElem? hx)
        simp; omega
      · unfold addF pushF; rw [hi]; simp only [h, h1, Bool.false_eq_true, if_false]
        rw [modify_at hx fun v => v ++ [w]]
      · simp
      · unfold addF pushF; rw [hi]; simp only [h, h1, Bool.false_eq_true, if_false]
        rw [modify_last]

theorem at_ok (l : ML) (b a : Int) (hb : BdL l) : (R.wait_Lists_At l b a).sat (· = (getF l [b, a], l)) := by
  unfold R.wait_Lists_At
  refine law_given fun _ => law_look (fun i x hi hx _ => ?_) fun hi => ?_
  · have := hb.2 x (List.mem_of_getElem? hx)
    refine law_bind_eq (a := x.2) (law_need (by simp; omega) (law_ok rfl)) (law_given fun _ => law_ok ?_)
    rw [getF_some hi hx, modify_same hx]
  · refine law_bind_eq (a := ([] : List WT)) (law_need (by simp) (law_ok rfl)) (law_given fun _ => law_ok ?_)
    rw [getF_none hi]
end Go.Mach

/-
  What the lists of waiters compute (2): waking, places, expiry.
-/
set_option maxRecDepth 10000
namespace Go.Mach
open Res

theorem plLe_iff (x y : Int × Int) : plLe x y = true ↔ (x.1 < y.1 ∨ x.1 = y.1 ∧ x.2 ≤ y.2) := by
  unfold plLe
  simp only [Bool.or_eq_true, Bool.and_eq_true, decide_eq_true_eq, beq_iff_eq]
theorem plSort_uniq {l m : List (Int × Int)} (hp : l.Perm m) : l.mergeSort plLe = m.mergeSort plLe := by
  have ht : ∀ a b c : Int × Int, plLe a b = true → plLe b c = true → plLe a c = true := fun a b c h1 h2 => by rw [plLe_iff] at *; omega
  have hz : ∀ a b : Int × Int, (plLe a b || plLe b a) = true := fun a b => by
    rw [Bool.or_eq_true, plLe_iff, plLe_iff]; omega
  exact List.Perm.eq_of_pairwise (le := fun a b => plLe a b = true) (fun a b _ _ h1 h2 => by rw [plLe_iff] at *; exact Prod.ext (by omega) (by omega))
    (List.pairwise_mergeSort ht hz l) (List.pairwise_mergeSort ht hz m) (((List.mergeSort_perm l _).trans hp).trans (List.mergeSort_perm m _).symm)

theorem bd_setF {l : ML} {k : List Int} {v : List WT} (hb : BdL l) (hv : v.length ≤ (getF l k).length) : BdL (setF l k v) := by
  unfold setF
  split
  · rename_i i hi
    split
    · exact ⟨by have := List.length_eraseIdx_le l i; have := hb.1; omega, fun e he => hb.2 e (List.mem_of_mem_eraseIdx he)⟩
    · refine ⟨by rw [List.length_modify]; exact hb.1, fun e he => ?_⟩
      obtain ⟨j, hj, rfl⟩ := List.getElem_of_mem he
      rw [List.getElem_modify]
      split
      · have := getF_bd hb k
        show v.length ≤ _
        omega
      · exact hb.2 _ (List.getElem_mem _)
  · rename_i hi
    rw [getF_none hi] at hv
    have : v.length = 0 := by simpa using hv
    rw [if_pos this]; exact hb

theorem wake_ok (l : ML) (b a n : Int) (all : Bool) (hb : BdL l) : (R.wait_Lists_Wake l b a n all).sat (· = wakeF l b a n all) := by
  unfold R.wait_Lists_Wake
  have first : ∀ (v : List WT), (Res.bind (α := Bool) (Res.br all (Res.ok true) (Res.ok (ilt (v.length : Int) n))) fun x => Res.br x (Res.ok (v.length : Int)) (Res.ok n)).sat (· = if all || decide ((v.length : Int) < n) then (v.length : Int) else n) := by
    intro v
    refine law_bind_eq (a := all || decide ((v.length : Int) < n)) (law_br (fun h => law_ok (by rw [h]; rfl)) fun h => law_ok (by rw [h]; rfl)) (law_br (fun h => law_ok (by rw [h]; rfl)) fun h => law_ok (by rw [h]; rfl))
  refine law_given fun _ => law_look (fun i x hi hx _ => ?_) fun hi => ?_
  · have hle := hb.2 x (List.mem_of_getElem? hx)
    have hget := getF_some hi hx
    refine law_bind_eq (first x.2) ?_
    generalize hN : (if all || decide ((x.2.length : Int) < n) then (x.2.length : Int) else n) = N
    have hwn : wakeN x.2 n all = (maxI N 0).toNat := by unfold wakeN; rw [hN, maxI_eq]
    have hNl : N ≤ x.2.length := by
      rw [← hN]; split
      · exact Int.le_refl _
      · rename_i h
        simp only [Bool.or_eq_true, decide_eq_true_eq, not_or] at h
        omega
    have hM0 : 0 ≤ maxI N 0 := by rw [maxI_eq]; omega
    have hMl : maxI N 0 ≤ x.2.length := by rw [maxI_eq]; omega
    generalize maxI N 0 = M at *
    have hneed : (ile 0 M && ile M x.2.length) = true := by rw [Bool.and_eq_true, ile_true, ile_true]; exact ⟨hM0, hMl⟩
    refine law_need hneed (law_bind' (R := fun out => out = (x.2.take M.toNat).map (·.1)) (law_for (fun o : List Int × Int => o.2) M.toNat (by omega) (fun o => 0 ≤ o.2 ∧ o.2 ≤ M.toNat ∧ o.1 = (x.2.take o.2.toNat).map (·.1)) ⟨Int.le_refl _, by simp only; omega, by simp⟩ (fun o h => ⟨h.1, h.2.1⟩) ?_) ?_)
    · rintro ⟨o, j⟩ ⟨h1, h2, h3⟩
      simp only at h1 h2 h3
      refine law_br (fun h => ?_) fun h => law_ok ?_
      · rw [ilt_true] at h
        simp only at h
        refine law_need (by rw [Bool.and_eq_true, ile_true, ilt_true]; exact ⟨h1, h⟩) (law_idx (by omega) (by rw [idx0]; simp only; omega) fun e he _ => law_need ?_ (law_ok ⟨?_, ?_⟩))
        · rw [h3]; simp; omega
        · simp only; rw [wrap64 (by omega)]
        · simp only
          rw [wrap64 (by omega)]
          refine ⟨by omega, by omega, ?_⟩
          rw [idx0] at he
          rw [show (j + 1).toNat = j.toNat + 1 by omega, List.take_succ, he, h3]
          simp
      · rw [ilt_false] at h
        simp only at h
        simp only
        rw [h3, show j.toNat = M.toNat by omega]
    · rintro _ rfl
      refine law_need hneed (law_bind_eq (a := x.2.drop M.toNat) (law_need ?_ (law_ok ?_)) (law_given fun _ => ?_))
      · simp; omega
      · rw [Nat.zero_add, List.take_of_length_le (by simp)]
      · rw [modify_same hx]
        refine law_bind_eq (set_ok l (b, a) (x.2.drop M.toNat)) (law_given fun _ => law_ok ?_)
        unfold wakeF
        rw [hget, hwn]
  · have hget := getF_none hi
    refine law_bind_eq (first ([] : List WT)) ?_
    generalize hN : (if all || decide (((([] : List WT).length : Nat) : Int) < n) then ((([] : List WT).length : Nat) : Int) else n) = N
    have hNl : N ≤ 0 := by
      rw [← hN]; split
      · simp
      · rename_i h
        simp only [Bool.or_eq_true, decide_eq_true_eq, not_or, List.length_nil] at h
        omega
    have hM : maxI N 0 = 0 := by rw [maxI_eq]; omega
    rw [hM]
    refine law_need (by simp [ile]) (law_bind_eq (a := ([] : List Int)) ?_ (law_need (by simp [ile]) (law_bind_eq (a := ([] : List WT)) (law_need (by simp) (law_ok rfl)) (law_given fun _ => law_bind_eq (set_ok l (b, a) []) (law_given fun _ => law_ok ?_)))))
    · exact law_loop (fun k (x : List Int × Int) => k = 0 ∧ x = ([], 0)) (by
        rintro k x ⟨rfl, rfl⟩
        exact law_f (by simp [ilt]) (law_ok rfl)) fuel 0 ([], 0) (by decide) ⟨rfl, rfl⟩
    · unfold wakeF; rw [hget]; simp

theorem places_ok (l : ML) (hb : BdL l) : (R.wait_Lists_Places l).sat (· = (placesF l, l)) := by
  unfold R.wait_Lists_Places
  refine law_given fun _ => law_order (placesF l, l) (fun p hp => ?_) rfl
  have hpl : p.length = l.length := hp.length_eq
  refine law_bind' (R := fun z => z = .next (p.map fun e => (e.1.getD 0 0, e.1.getD 1 0))) (law_each (fun rest (out : List (Int × Int)) => out.length + rest.length = p.length ∧ out ++ (rest.map fun e => (e.1.getD 0 0, e.1.getD 1 0)) = p.map fun e => (e.1.getD 0 0, e.1.getD 1 0)) ?_ ?_ p [] ⟨by simp, by simp⟩) ?_
  · rintro e rest out ⟨h1, h2⟩
    simp only [List.length_cons] at h1
    have := hb.1
    refine law_need ?_ (law_ok ⟨?_, ?_⟩)
    · simp; omega
    · simp; omega
    · rw [← h2]; simp
  · rintro out ⟨_, h⟩
    rw [← h]; simp
  · rintro _ rfl
    have hs : (p.map fun e => (e.1.getD 0 0, e.1.getD 1 0)).mergeSort plLe = placesF l := plSort_uniq (hp.map _)
    refine law_bind_eq (a := ((), placesF l)) ?_ (law_given fun _ => law_ok rfl)
    unfold sortRun
    refine law_need ?_ (law_ok (by rw [hs]))
    have := hb.1
    simp; omega

theorem places_len (l : ML) : (placesF l).length = l.length := by simp [placesF]

theorem exp_ok (l : ML) (now : Int) (hb : BdL l) : (R.wait_Lists_Expire l now).sat (· = expF l now) := by
  unfold R.wait_Lists_Expire
  refine law_given fun _ => law_bind_eq (places_ok l hb) (law_given fun _ => law_bind' (R := fun z => z = expF l now) ?_ fun z hz => law_ok hz)
  have hlen : (placesF l).length ≤ 2 ^ 20 := by rw [places_len]; exact hb.1
  refine law_for (fun o : List Int × Int × ML => o.2.1) (placesF l).length (by omega) (fun o => 0 ≤ o.2.1 ∧ o.2.1 ≤ (placesF l).length ∧ (o.1, o.2.2) = ((placesF l).take o.2.1.toNat).foldl (expStep now) ([], l) ∧ BdL o.2.2 ∧ o.1.length ≤ o.2.1.toNat * 2 ^ 20) ⟨by simp, by simp, by simp, hb, by simp⟩ (fun o h => ⟨h.1, h.2.1⟩) ?_
  rintro ⟨out, j, m⟩ ⟨h1, h2, h3, h4, h5⟩
  simp only at h1 h2 h3 h4 h5
  refine law_br (fun h => ?_) fun h => law_ok ?_
  case refine_2 =>
    rw [ilt_false] at h
    simp only at h
    rw [List.take_of_length_le (by omega)] at h3
    exact h3
  rw [ilt_true] at h
  simp only at h
  refine law_need (by rw [Bool.and_eq_true, ile_true, ilt_true]; exact ⟨h1, h⟩) (law_idx (by simp only; omega) (by rw [idx0]; simp only; omega) fun e he _ => ?_)
  rw [idx0] at he
  have he : (placesF l)[j.toNat]? = some e := he
  -- the round's end
  have fin : ∀ (q : List Int × ML), q = expStep now (out, m) e → (Res.ok (Step.next (q.1, IntKind.wrap .i64 (j + 1), q.2)) : Res (Step (List Int × Int × ML) (List Int × ML))).sat fun
      | .next a' => a'.2.1 = j + 1 ∧ 0 ≤ a'.2.1 ∧ a'.2.1 ≤ (placesF l).length ∧ (a'.1, a'.2.2) = ((placesF l).take a'.2.1.toNat).foldl (expStep now) ([], l) ∧ BdL a'.2.2 ∧ a'.1.length ≤ a'.2.1.toNat * 2 ^ 20
      | .done b => b = expF l now := by
    rintro q rfl
    have hf : ((getF m [e.1, e.2]).filter fun w => !stays now w).length ≤ 2 ^ 20 := Nat.le_trans (List.length_filter_le _ _) (getF_bd h4 _)
    have hw : IntKind.wrap .i64 (j + 1) = j + 1 := wrap64 (by omega)
    rw [hw]
    refine law_ok ⟨rfl, ?_, ?_, ?_, ?_, ?_⟩
    · show 0 ≤ j + 1
      omega
    · show j + 1 ≤ _
      omega
    · show _ = ((placesF l).take (j + 1).toNat).foldl (expStep now) ([], l)
      rw [show (j + 1).toNat = j.toNat + 1 by omega, List.take_succ, he, List.foldl_append, ← h3]
      rfl
    · exact bd_setF h4 (List.length_filter_le _ _)
    · show _ ≤ (j + 1).toNat * 2 ^ 20
      rw [show (j + 1).toNat = j.toNat + 1 by omega]
      simp only [expStep, List.length_append, List.length_map]
      omega
  have hj20 : j.toNat ≤ 2 ^ 20 := by omega
  have hout : out.length ≤ 2 ^ 40 := Nat.le_trans h5 (by have := Nat.mul_le_mul_right (2 ^ 20) hj20; omega)
  refine law_look (fun i x hi hx _ => ?_) fun hi => ?_
  · have hle := h4.2 x (List.mem_of_getElem? hx)
    have hget := getF_some hi hx
    refine law_bind' (R := fun o => o = (out ++ (x.2.filter fun w => !stays now w).map (·.1), x.2.filter (stays now))) (law_for (fun o : List Int × List WT × Int => o.2.2) x.2.length (by omega) (fun o => 0 ≤ o.2.2 ∧ o.2.2 ≤ x.2.length ∧ o.1 = out ++ ((x.2.take o.2.2.toNat).filter fun w => !stays now w).map (·.1) ∧ o.2.1 = (x.2.take o.2.2.toNat).filter (stays now)) ⟨by simp, by simp, by simp, by simp⟩ (fun o h => ⟨h.1, h.2.1⟩) ?_) ?_
    · rintro ⟨o1, o2, c⟩ ⟨g1, g2, g3, g4⟩
      simp only at g1 g2 g3 g4
      refine law_br (fun g => ?_) fun g => law_ok ?_
      · rw [ilt_true] at g
        simp only at g
        refine law_need (by rw [Bool.and_eq_true, ile_true, ilt_true]; exact ⟨g1, g⟩) (law_idx (by simp only; omega) (by rw [idx0]; simp only; omega) fun w hw _ => ?_)
        rw [idx0] at hw
        have hw : x.2[c.toNat]? = some w := hw
        have htk : x.2.take (c + 1).toNat = x.2.take c.toNat ++ [w] := by rw [show (c + 1).toNat = c.toNat + 1 by omega, List.take_succ, hw]; rfl
        have l1 : ((x.2.take c.toNat).filter fun w => !stays now w).length ≤ 2 ^ 20 := Nat.le_trans (List.length_filter_le _ _) (by rw [List.length_take]; omega)
        have l2 : ((x.2.take c.toNat).filter (stays now)).length ≤ 2 ^ 20 := Nat.le_trans (List.length_filter_le _ _) (by rw [List.length_take]; omega)
        refine law_bind_eq (a := stays now w) (law_br (fun q => law_ok (by unfold stays; rw [q]; rfl)) fun q => law_ok (by unfold stays; rw [q]; rfl)) (law_br (fun q => law_need ?_ (law_ok ⟨?_, ?_, ?_, ?_, ?_⟩)) fun q => law_need ?_ (law_ok ⟨?_, ?_, ?_, ?_, ?_⟩))
        · rw [g4]; simp only [List.length_cons, List.length_nil, decide_eq_true_eq]; omega
        · simp only; rw [wrap64 (by omega)]
        · simp only; rw [wrap64 (by omega)]; omega
        · simp only; rw [wrap64 (by omega)]; omega
        · simp only; rw [wrap64 (by omega), htk, g3]; simp [q]
        · simp only; rw [wrap64 (by omega), htk, g4]; simp [q]
        · rw [g3]; simp only [List.length_append, List.length_map, List.length_cons, List.length_nil, decide_eq_true_eq]; omega
        · simp only; rw [wrap64 (by omega)]
        · simp only; rw [wrap64 (by omega)]; omega
        · simp only; rw [wrap64 (by omega)]; omega
        · simp only; rw [wrap64 (by omega), htk, g3]; simp [q]
        · simp only; rw [wrap64 (by omega), htk, g4]; simp [q]
      · rw [ilt_false] at g
        simp only at g
        simp only
        rw [g3, g4, List.take_of_length_le (by omega)]
    · rintro _ rfl
      rw [modify_same hx]
      refine law_bind_eq (set_ok m e (x.2.filter (stays now))) (law_given fun _ => ?_)
      exact fin (_, _) (by unfold expStep; rw [hget])
  · have hget := getF_none hi
    refine law_bind_eq (a := (out, ([] : List WT))) ?_ (law_bind_eq (set_ok m e []) (law_given fun _ => ?_))
    · exact law_loop (fun k (x : List Int × List WT × Int) => k = 0 ∧ x = (out, [], 0)) (by
        rintro k x ⟨rfl, rfl⟩
        exact law_f (by simp [ilt]) (law_ok rfl)) fuel 0 (out, [], 0) (by decide) ⟨rfl, rfl⟩
    · exact fin (_, _) (by unfold expStep; rw [hget]; simp)
end Go.Mach

/-
  The lists of waiters: what holds of them.
-/
set_option maxRecDepth 10000
namespace Go.Mach
open Res

def allW (l : ML) : List WT := l.flatMap (·.2)

/-- All agents wait once; no place is empty. -/
structure WInv (l : ML) : Prop where
  nd : (l.map (·.1)).Nodup
  ne : ∀ e ∈ l, e.2 ≠ []
  k2 : ∀ e ∈ l, ∃ b a, e.1 = [b, a]
  ag : ((allW l).map (·.1)).Nodup

theorem WInv.nil : WInv [] := ⟨by simp, by simp, by simp, by simp [allW]⟩

theorem keyIx_split {l : ML} {k : List Int} {i : Nat} (h : keyIx l k = some i) : ∃ l1 v l2, l = l1 ++ (k, v) :: l2 ∧ l1.length = i ∧ (∀ e ∈ l1, e.1 ≠ k) ∧ getF l k = v := by
  have h0 := List.findIdx?_eq_some_iff_getElem.1 h
  obtain ⟨hlt, h2, h3⟩ := h0
  have h2 : l[i].1 = k := by simpa using h2
  refine ⟨l.take i, l[i].2, l.drop (i + 1), ?_, by rw [List.length_take]; omega, fun e he => ?_, ?_⟩
  · have : (k, l[i].2) = l[i] := Prod.ext h2.symm rfl
    rw [this]
    simp
  · obtain ⟨j, hj, rfl⟩ := List.getElem_of_mem he
    rw [List.length_take] at hj
    rw [List.getElem_take]
    have := h3 j (by omega)
    simpa using this
  · exact getF_some h (List.getElem?_eq_getElem hlt)

theorem modify_mid {α : Type} (f : α → α) (x : α) (l2 : List α) : ∀ (l : List α), (l ++ x :: l2).modify l.length f = l ++ f x :: l2
  | [] => rfl
  | a :: l => by
    show (a :: (l ++ x :: l2)).modify (l.length + 1) f = a :: (l ++ f x :: l2)
    rw [List.modify_succ_cons, modify_mid f x l2 l]

/-- A place that is not empty. -/
def ent (k : List Int) (v : List WT) : ML := if v.length = 0 then [] else [(k, v)]

theorem keyIx_mid {l1 l2 : ML} {k : List Int} {v : List WT} (h1 : ∀ e ∈ l1, e.1 ≠ k) : keyIx (l1 ++ (k, v) :: l2) k = some l1.length := by
  unfold keyIx
  rw [List.findIdx?_eq_some_iff_getElem]
  refine ⟨by simp, by simp, fun j hj => ?_⟩
  rw [List.getElem_append_left hj]
  simpa using h1 _ (List.getElem_mem hj)

theorem getF_mid {l1 l2 : ML} {k : List Int} {v : List WT} (h1 : ∀ e ∈ l1, e.1 ≠ k) (h2 : ∀ e ∈ l2, e.1 ≠ k) : getF (l1 ++ (ent k v ++ l2)) k = v := by
  unfold ent
  split
  · rename_i h
    rw [List.eq_nil_of_length_eq_zero h]
    refine getF_none (keyIx_none fun e he => ?_)
    rcases List.mem_append.1 he with he | he
    · exact h1 e he
    · exact h2 e (by simpa using he)
  · exact getF_some (x := (k, v)) (keyIx_mid h1) (by simp)

theorem set_split {l : ML} (h : WInv l) (k : List Int) : ∃ l1 l2, (∀ e ∈ l1, e.1 ≠ k) ∧ (∀ e ∈ l2, e.1 ≠ k) ∧ l = l1 ++ (ent k (getF l k) ++ l2) ∧ ∀ v, setF l k v = l1 ++ (ent k v ++ l2) := by
  cases hk : keyIx l k with
  | none =>
    have hn : ∀ e ∈ l, e.1 ≠ k := fun e he => by
      unfold keyIx at hk
      rw [List.findIdx?_eq_none_iff] at hk
      simpa using hk e he
    refine ⟨l, [], hn, by simp, ?_, fun v => ?_⟩
    · rw [getF_none hk]; simp [ent]
    · unfold setF ent; rw [hk]; simp only; split <;> simp
  | some i =>
    obtain ⟨l1, v0, l2, rfl, rfl, h1, h2⟩ := keyIx_split hk
    have h3 : ∀ e ∈ l2, e.1 ≠ k := fun e he hek => by
      have := h.nd
      simp only [List.map_append, List.map_cons, List.nodup_append, List.nodup_cons] at this
      exact this.2.1.1 (by rw [← hek]; exact List.mem_map_of_mem he)
    have h4 : v0 ≠ [] := h.ne (k, v0) (by simp)
    have h5 : ¬ v0.length = 0 := fun e => h4 (List.eq_nil_of_length_eq_zero e)
    refine ⟨l1, l2, h1, h3, ?_, fun v => ?_⟩
    · rw [h2]; unfold ent; rw [if_neg h5]; simp
    · unfold setF ent
      rw [hk]
      simp only
      split
      · rw [List.eraseIdx_append_of_length_le (Nat.le_refl _)]; simp
      · rw [modify_mid]; simp

theorem allW_ent (k : List Int) (v : List WT) : allW (ent k v) = v := by
  unfold ent
  split
  · rename_i h; rw [List.eq_nil_of_length_eq_zero h]; rfl
  · simp [allW]
theorem allW_append (l m : ML) : allW (l ++ m) = allW l ++ allW m := by simp [allW]

theorem push_eq {l : ML} (h : WInv l) (k : List Int) (w : WT) : pushF l k w = setF l k (getF l k ++ [w]) := by
  unfold pushF setF
  split
  · rename_i i hi
    simp only [List.length_append, List.length_cons, List.length_nil]
    rw [if_neg (by omega)]
    obtain ⟨h1, _, _⟩ := List.findIdx?_eq_some_iff_getElem.1 hi
    have hx := List.getElem?_eq_getElem h1
    rw [getF_some hi hx, modify_at hx fun v => v ++ [w]]
  · rename_i hi
    rw [getF_none hi]
    simp

theorem getF_cons (x : List Int × List WT) (l : ML) (k : List Int) : getF (x :: l) k = if x.1 = k then x.2 else getF l k := by
  unfold getF keyIx
  rw [List.findIdx?_cons]
  by_cases h : x.1 = k
  · simp [h]
  · simp only [h, decide_false, Bool.false_eq_true, if_false]
    cases List.findIdx? (fun x : List Int × List WT => decide (x.1 = k)) l <;> simp

theorem get_set {l : ML} (h : WInv l) (k : List Int) (v : List WT) (k' : List Int) : getF (setF l k v) k' = if k' = k then v else getF l k' := by
  obtain ⟨l1, l2, h1, h2, h3, h4⟩ := set_split h k
  rw [h4]
  split
  · rename_i e; subst e; exact getF_mid h1 h2
  · rename_i e
    -- another key: it stands in l1 or in l2
    have key : ∀ (m : ML) (u : List WT), getF (m ++ (ent k u ++ l2)) k' = getF (m ++ l2) k' := by
      intro m u
      induction m with
      | nil =>
        unfold ent
        split
        · rfl
        · show getF ((k, u) :: l2) k' = getF l2 k'
          rw [getF_cons, if_neg fun e' => e e'.symm]
      | cons x m ih => rw [List.cons_append, List.cons_append, getF_cons, getF_cons, ih]
    rw [key, ← key l1 (getF l k), ← h3]

theorem mem_set {l : ML} (h : WInv l) (k : List Int) (v : List WT) {e : List Int × List WT} (he : e ∈ setF l k v) : (e.1 ≠ k ∧ e ∈ l) ∨ (e = (k, v) ∧ v ≠ []) := by
  obtain ⟨l1, l2, h1, h2, h3, h4⟩ := set_split h k
  rw [h4] at he
  have hl1 : ∀ e ∈ l1, e ∈ l := fun e he => by rw [h3]; exact List.mem_append_left _ he
  have hl2 : ∀ e ∈ l2, e ∈ l := fun e he => by rw [h3]; exact List.mem_append_right _ (List.mem_append_right _ he)
  rcases List.mem_append.1 he with he | he
  · exact .inl ⟨h1 e he, hl1 e he⟩
  · rcases List.mem_append.1 he with he | he
    · unfold ent at he
      split at he
      · cases he
      · rename_i hv
        simp only [List.mem_singleton] at he
        exact .inr ⟨he, by rintro rfl; exact hv rfl⟩
    · exact .inl ⟨h2 e he, hl2 e he⟩

/-- The waiters behind a change: those of the place are exchanged. -/
theorem all_set {l : ML} (h : WInv l) (k : List Int) (v : List WT) : ∃ A B, allW l = A ++ (getF l k ++ B) ∧ allW (setF l k v) = A ++ (v ++ B) := by
  obtain ⟨l1, l2, h1, h2, h3, h4⟩ := set_split h k
  refine ⟨allW l1, allW l2, ?_, ?_⟩
  · conv => lhs; rw [h3]
    rw [allW_append, allW_append, allW_ent]
  · rw [h4, allW_append, allW_append, allW_ent]

theorem inv_set {l : ML} (h : WInv l) (b a : Int) (v : List WT) (hag : ((allW (setF l [b, a] v)).map (·.1)).Nodup) : WInv (setF l [b, a] v) := by
  obtain ⟨l1, l2, h1, h2, h3, h4⟩ := set_split h [b, a]
  refine ⟨?_, fun e he => ?_, fun e he => ?_, hag⟩
  · rw [h4]
    have hnd := h.nd
    rw [h3] at hnd
    simp only [List.map_append, List.nodup_append] at hnd ⊢
    obtain ⟨n1, ⟨n2, n3, n4⟩, n5⟩ := hnd
    refine ⟨n1, ⟨?_, n3, ?_⟩, ?_⟩
    · unfold ent; split <;> simp
    · intro x hx y hy
      unfold ent at hx
      split at hx
      · simp at hx
      · simp only [List.map_cons, List.map_nil, List.mem_singleton] at hx
        subst hx
        rintro rfl
        obtain ⟨e, he, hek⟩ := List.mem_map.1 hy
        exact h2 e he hek
    · intro x hx y hy
      rcases List.mem_append.1 hy with hy | hy
      · unfold ent at hy
        split at hy
        · simp at hy
        · simp only [List.map_cons, List.map_nil, List.mem_singleton] at hy
          subst hy
          rintro rfl
          obtain ⟨e, he, hek⟩ := List.mem_map.1 hx
          exact h1 e he hek
      · exact n5 x hx y (List.mem_append_right _ hy)
  · rcases mem_set h _ _ he with ⟨_, he⟩ | ⟨rfl, hv⟩
    · exact h.ne e he
    · exact hv
  · rcases mem_set h _ _ he with ⟨_, he⟩ | ⟨rfl, hv⟩
    · exact h.k2 e he
    · exact ⟨b, a, rfl⟩

/-- A part of the place's waiters stays. -/
theorem inv_part {l : ML} (h : WInv l) (b a : Int) (v : List WT) (hv : v.Sublist (getF l [b, a])) : WInv (setF l [b, a] v) := by
  refine inv_set h b a v ?_
  obtain ⟨A, B, e1, e2⟩ := all_set h [b, a] v
  have hag := h.ag
  rw [e1] at hag
  rw [e2]
  refine hag.sublist (List.Sublist.map _ ?_)
  exact (List.Sublist.refl _).append (hv.append (List.Sublist.refl _))

theorem has_iff {l : ML} {x : Int} : hasF l x = true ↔ x ∈ (allW l).map (·.1) := by
  unfold hasF allW
  simp only [List.any_eq_true, beq_iff_eq, List.mem_map, List.mem_flatMap]
  constructor
  · rintro ⟨e, he, w, hw, rfl⟩; exact ⟨w, ⟨e, he, hw⟩, rfl⟩
  · rintro ⟨w, ⟨e, he, hw⟩, rfl⟩; exact ⟨e, he, w, hw, rfl⟩

theorem inv_add {l : ML} (h : WInv l) (b a : Int) (w : WT) (hn : hasF l w.1 = false) : WInv (setF l [b, a] (getF l [b, a] ++ [w])) := by
  refine inv_set h b a _ ?_
  obtain ⟨A, B, e1, e2⟩ := all_set h [b, a] (getF l [b, a] ++ [w])
  have hag := h.ag
  have hw : w.1 ∉ (allW l).map (·.1) := fun hm => by rw [has_iff.2 hm] at hn; cases hn
  rw [e2]
  rw [e1] at hag hw
  have hp : (A ++ ((getF l [b, a] ++ [w]) ++ B)).Perm (w :: (A ++ (getF l [b, a] ++ B))) := by
    have : A ++ ((getF l [b, a] ++ [w]) ++ B) = (A ++ getF l [b, a]) ++ w :: B := by simp
    rw [this]
    refine List.perm_middle.trans (List.Perm.cons _ ?_)
    simp
  refine (hp.map _).nodup_iff.2 ?_
  rw [List.map_cons, List.nodup_cons]
  exact ⟨hw, hag⟩

theorem get_sub {l : ML} (k : List Int) : ∀ w ∈ getF l k, w ∈ allW l := by
  intro w hw
  unfold getF at hw
  split at hw
  · rename_i i hi
    cases hx : l[i]? with
    | none => rw [hx] at hw; simp at hw
    | some x =>
      rw [hx] at hw
      simp only [Option.map_some, Option.getD_some] at hw
      exact List.mem_flatMap.2 ⟨x, List.mem_of_getElem? hx, hw⟩
  · cases hw

theorem sum_len (l : ML) : (allW l).length = (l.map fun e => e.2.length).sum := by
  unfold allW
  rw [List.length_flatMap]

theorem bd_of {l : ML} (h : WInv l) {N : Nat} (hN : (allW l).length ≤ N) (hN2 : N ≤ 2 ^ 20) : BdL l := by
  constructor
  · have : l.length ≤ (allW l).length := by
      rw [sum_len]
      have : ∀ (m : ML), (∀ e ∈ m, e.2 ≠ []) → m.length ≤ (m.map fun e => e.2.length).sum := by
        intro m
        induction m with
        | nil => intro _; simp
        | cons e m ih =>
          intro hm
          have h1 := ih fun e he => hm e (by simp [he])
          have h2 : 0 < e.2.length := List.length_pos_iff.2 (hm e (by simp))
          simp only [List.length_cons, List.map_cons, List.sum_cons]
          omega
      exact this l h.ne
    omega
  · intro e he
    have : e.2.length ≤ (allW l).length := by
      obtain ⟨l1, l2, rfl⟩ := List.append_of_mem he
      simp only [allW_append, List.length_append]
      have : allW (e :: l2) = e.2 ++ allW l2 := by simp [allW]
      rw [this, List.length_append]
      omega
    omega
end Go.Mach

/-
  The plain law of WaitFair.
-/
set_option maxRecDepth 10000
namespace Go.Mach
open Res

theorem ints_ok (a b : List Int) (ha : a.length ≤ 2 ^ 40) : (R.renref_Ints a b).sat (· = decide (a = b)) := by
  unfold R.renref_Ints
  refine law_given fun _ => law_br (fun h => law_ok ?_) fun h => ?_
  · simp only [Bool.not_eq_true', beq_eq_false_iff_ne, ne_eq, Int.natCast_inj] at h
    have : a ≠ b := fun e => h (by rw [e])
    simp [this]
  · simp only [Bool.not_eq_false', beq_iff_eq, Int.natCast_inj] at h
    refine law_bind' (R := fun z => match z with | .inl _ => a = b | .inr c => c = false ∧ a ≠ b) (law_for (fun x : Int => x) a.length (by omega) (fun x => 0 ≤ x ∧ x ≤ a.length ∧ a.take x.toNat = b.take x.toNat) ⟨by omega, by omega, by simp⟩ (fun x h => ⟨h.1, h.2.1⟩) ?_) ?_
    · rintro x ⟨h0, h1, h2⟩
      refine law_br (fun h3 => ?_) fun h3 => law_ok ?_
      · rw [ilt_true] at h3
        refine law_idxS h0 (by omega) fun p hp _ => law_idxS h0 (by omega) fun q hq _ => law_br (fun h4 => law_ok ⟨rfl, ?_⟩) fun h4 => law_ok ⟨?_, ?_, ?_, ?_⟩
        · rintro rfl
          have hpq : p = q := by rw [hp] at hq; exact Option.some.inj hq
          subst hpq
          simp at h4
        · rw [wrap64 (by omega)]
        · rw [wrap64 (by omega)]; omega
        · rw [wrap64 (by omega)]; omega
        · rw [wrap64 (by omega), show (x + 1).toNat = x.toNat + 1 by omega, List.take_succ, List.take_succ, h2, hp, hq]
          have : p = q := by simpa using h4
          rw [this]
      · rw [ilt_false] at h3
        rw [List.take_of_length_le (by omega), List.take_of_length_le (by omega)] at h2
        exact h2
    · rintro (z | z) hz
      · have hz : a = b := hz
        exact law_inl (law_ok (by simp [hz]))
      · obtain ⟨rfl, hz⟩ := hz
        exact law_inr (law_ok (by simp [hz]))

theorem bd_small {l : ML} (h1 : l.length ≤ 100) (h2 : ∀ e ∈ l, e.2.length ≤ 100) : BdL l := ⟨by omega, fun e he => by have := h2 e he; omega⟩

theorem first_ok : R.renlaw22_first.sat (· = true) := by
  unfold R.renlaw22_first
  have e1 : addF [] 0 4 (1, 0, true) = (0, [([0, 4], [(1, 0, true)])]) := by decide
  have e2 : addF [([0, 4], [(1, 0, true)])] 0 4 (2, 5, false) = (0, [([0, 4], [(1, 0, true), (2, 5, false)])]) := by decide
  have e3 : addF [([0, 4], [(1, 0, true), (2, 5, false)])] 0 8 (1, 0, false) = (10, [([0, 4], [(1, 0, true), (2, 5, false)])]) := by decide
  have e4 : wakeF [([0, 4], [(1, 0, true), (2, 5, false)])] 0 4 1 false = ([1], [([0, 4], [(2, 5, false)])]) := by decide
  have e5 : placesF [([0, 4], [((2 : Int), (5 : Int), false)])] = [(0, 4)] := by simp [placesF]
  have e6 : expF [([0, 4], [(2, 5, false)])] 4 = ([], [([0, 4], [(2, 5, false)])]) := by unfold expF; rw [e5]; decide
  have e7 : expF [([0, 4], [(2, 5, false)])] 5 = ([2], []) := by unfold expF; rw [e5]; decide
  refine law_given fun _ => law_bind_eq new_ok (law_given fun _ => ?_)
  refine law_bind_eq (e1 ▸ add_ok [] 0 4 (1, 0, true) (bd_small (by simp) (by simp))) (law_given fun _ => ?_)
  refine law_bind_eq (e2 ▸ add_ok [([0, 4], [(1, 0, true)])] 0 4 (2, 5, false) (bd_small (by simp) (by simp))) (law_given fun _ => ?_)
  refine law_bind_eq (e3 ▸ add_ok [([0, 4], [(1, 0, true), (2, 5, false)])] 0 8 (1, 0, false) (bd_small (by simp) (by simp))) (law_given fun _ => ?_)
  refine law_bind_eq (e4 ▸ wake_ok [([0, 4], [(1, 0, true), (2, 5, false)])] 0 4 1 false (bd_small (by simp) (by simp))) (law_given fun _ => ?_)
  refine law_bind_eq (e6 ▸ exp_ok [([0, 4], [(2, 5, false)])] 4 (bd_small (by simp) (by simp))) (law_given fun _ => ?_)
  refine law_bind_eq (e7 ▸ exp_ok [([0, 4], [(2, 5, false)])] 5 (bd_small (by simp) (by simp))) (law_given fun _ => ?_)
  refine law_t rfl (law_t rfl (law_t rfl (law_bind_eq (ints_ok [1] [1] (by simp)) (law_t rfl (law_t rfl (law_bind_eq (ints_ok [2] [2] (by simp)) (law_ok rfl)))))))

theorem addF_spec {l : ML} (h : WInv l) (b a : Int) (w : WT) : ((addF l b a w).1 ≠ 0 ∧ (addF l b a w).2 = l) ∨
    ((addF l b a w).1 = 0 ∧ (addF l b a w).2 = setF l [b, a] (getF l [b, a] ++ [w]) ∧ hasF l w.1 = false) := by
  unfold addF
  split
  · exact .inl ⟨by simp, rfl⟩
  · split
    · exact .inl ⟨by simp, rfl⟩
    · rename_i h2
      exact .inr ⟨rfl, push_eq h [b, a] w, by simpa using h2⟩

theorem allW_set_len {l : ML} (h : WInv l) (k : List Int) (v : List WT) : (allW (setF l k v)).length + (getF l k).length = (allW l).length + v.length := by
  obtain ⟨A, B, e1, e2⟩ := all_set h k v
  rw [e1, e2]
  simp only [List.length_append]
  omega

theorem inv_wake {l : ML} (h : WInv l) (b a n : Int) (all : Bool) : WInv (wakeF l b a n all).2 ∧ (allW (wakeF l b a n all).2).length ≤ (allW l).length := by
  refine ⟨inv_part h b a _ (List.drop_sublist _ _), ?_⟩
  have := allW_set_len h [b, a] ((getF l [b, a]).drop (wakeN (getF l [b, a]) n all))
  rw [List.length_drop] at this
  unfold wakeF
  simp only
  omega

theorem wakeN_all (v : List WT) (n : Int) : wakeN v n true = v.length := by unfold wakeN; simp
theorem wakeN_le (v : List WT) (n : Int) (all : Bool) : wakeN v n all ≤ v.length := by
  unfold wakeN
  split
  · omega
  · rename_i h
    simp only [Bool.or_eq_true, decide_eq_true_eq, not_or] at h
    omega
theorem wakeN_min (v : List WT) (n : Int) : (wakeN v n false : Int) = min (max n 0) v.length := by
  unfold wakeN
  simp only [Bool.false_or, decide_eq_true_eq]
  split <;> omega

theorem fair_law (who : List Int) (place : List Bool) (n : Int) : (R.renlaw22_WaitFair who place n).sat (· = true) := by
  unfold R.renlaw22_WaitFair
  refine law_given fun _ => law_bind_eq first_ok (law_f rfl (law_bind_eq new_ok (law_given fun _ => law_bind' (R := fun x => x = false → who.length ≤ 60 ∧ who.length ≤ place.length) ?_ fun x hx => ?_)))
  · refine law_br (fun h => law_ok fun h' => by cases h') fun h => law_ok fun h' => ?_
    rw [ilt_false] at h h'
    omega
  refine law_br (fun _ => law_bind_eq first_ok (law_ok rfl)) fun hx0 => ?_
  obtain ⟨hw, hp⟩ := hx hx0
  clear hx
  refine law_bind' (R := fun s : List Int × List Int × ML => WInv s.2.2 ∧ (allW s.2.2).length ≤ 60 ∧ (getF s.2.2 [0, 0]).map (·.1) = s.1 ∧ (getF s.2.2 [0, 4]).map (·.1) = s.2.1 ∧ ∀ e ∈ s.2.2, e.1 = [0, 0] ∨ e.1 = [0, 4]) ?_ ?_
  · refine law_for (fun s : List Int × List Int × Int × ML => s.2.2.1) who.length (by omega) (fun s => 0 ≤ s.2.2.1 ∧ s.2.2.1 ≤ who.length ∧ WInv s.2.2.2 ∧ (allW s.2.2.2).length ≤ s.2.2.1.toNat ∧ (getF s.2.2.2 [0, 0]).map (·.1) = s.1 ∧ (getF s.2.2.2 [0, 4]).map (·.1) = s.2.1 ∧ ∀ e ∈ s.2.2.2, e.1 = [0, 0] ∨ e.1 = [0, 4])
      ⟨Int.le_refl _, by simp only; omega, WInv.nil, by simp [allW], rfl, rfl, by simp⟩ (fun s h => ⟨h.1, h.2.1⟩) ?_
    rintro ⟨A, B, i, m⟩ ⟨h1, h2, h3, h4, h5, h6, h7⟩
    simp only at h1 h2 h3 h4 h5 h6 h7
    refine law_br (fun h => ?_) fun h => law_ok ?_
    case refine_2 =>
      rw [ilt_false] at h
      simp only at h
      exact ⟨h3, Nat.le_trans h4 (by omega), h5, h6, h7⟩
    rw [ilt_true] at h
    simp only at h
    have hwi : IntKind.wrap .i64 (i + 1) = i + 1 := wrap64 (by omega)
    have hpl : i.toNat < place.length := by omega
    have hwl : i.toNat < who.length := by omega
    obtain ⟨pb, hpb⟩ : ∃ pb, place[i.toNat]? = some pb := ⟨_, List.getElem?_eq_getElem hpl⟩
    obtain ⟨wb, hwb⟩ : ∃ wb, who[i.toNat]? = some wb := ⟨_, List.getElem?_eq_getElem hwl⟩
    refine law_bind_eq (a := if pb then 4 else 0) (law_idxS h1 hpl fun e he _ => ?_) (law_idxS h1 hwl fun e he _ => ?_)
    · rw [hpb] at he; cases he
      exact law_br (fun q => law_ok (by rw [q]; rfl)) fun q => law_ok (by rw [q]; rfl)
    rw [hwb] at he; cases he
    have hbd : BdL m := bd_of h3 (N := 60) (by omega) (by omega)
    refine law_bind_eq (add_ok m 0 (if pb then 4 else 0) (wb, 0, true) hbd) (law_given fun _ => ?_)
    have hlA : A.length ≤ 60 := by
      rw [← h5, List.length_map]
      have := (getF_bd hbd [0, 0])
      have h8 : (getF m [0, 0]).length ≤ (allW m).length := by
        obtain ⟨P, Q, e1, _⟩ := all_set h3 [0, 0] []
        rw [e1]; simp only [List.length_append]; omega
      omega
    have hlB : B.length ≤ 60 := by
      rw [← h6, List.length_map]
      have h8 : (getF m [0, 4]).length ≤ (allW m).length := by
        obtain ⟨P, Q, e1, _⟩ := all_set h3 [0, 4] []
        rw [e1]; simp only [List.length_append]; omega
      omega
    rcases addF_spec h3 0 (if pb then 4 else 0) (wb, 0, true) with ⟨g1, g2⟩ | ⟨g1, g2, g3⟩
    · refine law_t (by simpa using g1) (law_ok ?_)
      rw [g2, hwi]
      refine ⟨rfl, ?_, ?_, h3, ?_, h5, h6, h7⟩
      · show 0 ≤ i + 1
        omega
      · show i + 1 ≤ _
        omega
      · show (allW m).length ≤ (i + 1).toNat
        omega
    · refine law_f (by simpa using g1) (law_idxS h1 hpl fun e2 he2 _ => ?_)
      rw [hpb] at he2; cases he2
      rw [g2, hwi]
      have hinv := inv_add h3 0 (if pb then 4 else 0) (wb, 0, true) g3
      have hall := allW_set_len h3 [0, if pb then 4 else 0] (getF m [0, if pb then 4 else 0] ++ [(wb, 0, true)])
      rw [List.length_append] at hall
      simp only [List.length_cons, List.length_nil] at hall
      have hlen' : (allW (setF m [0, if pb then 4 else 0] (getF m [0, if pb then 4 else 0] ++ [(wb, 0, true)]))).length ≤ (i + 1).toNat := by omega
      have hkeys : ∀ x ∈ setF m [0, if pb then 4 else 0] (getF m [0, if pb then 4 else 0] ++ [(wb, 0, true)]), x.1 = [0, 0] ∨ x.1 = [0, 4] := fun x hx => by
        rcases mem_set h3 _ _ hx with ⟨_, hx⟩ | ⟨rfl, _⟩
        · exact h7 x hx
        · cases pb
          · exact .inl rfl
          · exact .inr rfl
      refine law_br (fun q => ?_) fun q => ?_
      · subst q
        refine law_idxS h1 hwl fun e3 he3 _ => law_need ?_ (law_ok ⟨rfl, ?_, ?_, hinv, ?_, ?_, ?_, hkeys⟩)
        · simp only [List.length_cons, List.length_nil, decide_eq_true_eq]; omega
        · show 0 ≤ i + 1
          omega
        · show i + 1 ≤ _
          omega
        · exact hlen'
        · simp only [if_true]
          rw [get_set h3, if_neg (by decide)]; exact h5
        · simp only [if_true]
          rw [hwb] at he3; cases he3
          rw [get_set h3, if_pos rfl, List.map_append, h6]; rfl
      · subst q
        refine law_idxS h1 hwl fun e3 he3 _ => law_need ?_ (law_ok ⟨rfl, ?_, ?_, hinv, ?_, ?_, ?_, hkeys⟩)
        · simp only [List.length_cons, List.length_nil, decide_eq_true_eq]; omega
        · show 0 ≤ i + 1
          omega
        · show i + 1 ≤ _
          omega
        · exact hlen'
        · simp only [Bool.false_eq_true, if_false]
          rw [hwb] at he3; cases he3
          rw [get_set h3, if_pos rfl, List.map_append, h5]; rfl
        · simp only [Bool.false_eq_true, if_false]
          rw [get_set h3, if_neg (by decide)]; exact h6
  · rintro ⟨A, B, m⟩ ⟨h3, h4, h5, h6, h7⟩
    simp only at h3 h4 h5 h6 h7
    have hbd : BdL m := bd_of h3 h4 (by omega)
    obtain ⟨i1, s1⟩ := inv_wake h3 0 0 n false
    have hbd1 : BdL (wakeF m 0 0 n false).2 := bd_of i1 (Nat.le_trans s1 h4) (by omega)
    obtain ⟨i2, s2⟩ := inv_wake i1 0 0 0 true
    have hbd2 : BdL (wakeF (wakeF m 0 0 n false).2 0 0 0 true).2 := bd_of i2 (Nat.le_trans s2 (Nat.le_trans s1 h4)) (by omega)
    obtain ⟨i3, s3⟩ := inv_wake i2 0 4 0 true
    have hbd3 := bd_of i3 (Nat.le_trans s3 (Nat.le_trans s2 (Nat.le_trans s1 h4))) (by omega)
    have hA : (getF m [0, 0]).length ≤ 60 := by
      have h8 : (getF m [0, 0]).length ≤ (allW m).length := by
        obtain ⟨P, Q, e1, _⟩ := all_set h3 [0, 0] []
        rw [e1]; simp only [List.length_append]; omega
      omega
    generalize hM : wakeN (getF m [0, 0]) n false = M
    have hMl : M ≤ (getF m [0, 0]).length := by rw [← hM]; exact wakeN_le _ _ _
    have w1 : (wakeF m 0 0 n false) = (((getF m [0, 0]).take M).map (·.1), setF m [0, 0] ((getF m [0, 0]).drop M)) := by unfold wakeF; rw [hM]
    have f1 : getF (setF m [0, 0] ((getF m [0, 0]).drop M)) [0, 0] = (getF m [0, 0]).drop M := by rw [get_set h3, if_pos rfl]
    have w2 : (wakeF (setF m [0, 0] ((getF m [0, 0]).drop M)) 0 0 0 true) = (((getF m [0, 0]).drop M).map (·.1), setF (setF m [0, 0] ((getF m [0, 0]).drop M)) [0, 0] []) := by
      unfold wakeF
      rw [f1, wakeN_all, List.take_length, List.drop_length]
    have hi1 : WInv (setF m [0, 0] ((getF m [0, 0]).drop M)) := by rw [w1] at i1; exact i1
    have hi2 : WInv (setF (setF m [0, 0] ((getF m [0, 0]).drop M)) [0, 0] []) := by rw [w1, w2] at i2; exact i2
    have f2 : getF (setF (setF m [0, 0] ((getF m [0, 0]).drop M)) [0, 0] []) [0, 4] = getF m [0, 4] := by
      rw [get_set hi1, if_neg (by decide), get_set h3, if_neg (by decide)]
    have w3 : (wakeF (setF (setF m [0, 0] ((getF m [0, 0]).drop M)) [0, 0] []) 0 4 0 true) = ((getF m [0, 4]).map (·.1), setF (setF (setF m [0, 0] ((getF m [0, 0]).drop M)) [0, 0] []) [0, 4] []) := by
      unfold wakeF
      rw [f2, wakeN_all, List.take_length, List.drop_length]
    have hend : setF (setF (setF m [0, 0] ((getF m [0, 0]).drop M)) [0, 0] []) [0, 4] [] = [] := by
      apply List.eq_nil_iff_forall_not_mem.2
      intro e he
      rcases mem_set hi2 _ _ he with ⟨k1, he⟩ | ⟨_, hv⟩
      · rcases mem_set hi1 _ _ he with ⟨k2, he⟩ | ⟨_, hv⟩
        · rcases mem_set h3 _ _ he with ⟨_, he⟩ | ⟨rfl, _⟩
          · rcases h7 e he with h | h
            · exact k2 h
            · exact k1 h
          · exact k2 rfl
        · exact hv rfl
      · exact hv rfl
    refine law_bind_eq (wake_ok m 0 0 n false hbd) (law_given fun _ => law_bind_eq (wake_ok _ 0 0 0 true hbd1) (law_given fun _ => law_bind_eq (wake_ok _ 0 4 0 true hbd2) (law_given fun _ => law_bind_eq first_ok (law_t rfl ?_))))
    rw [w1] at hbd1 hbd2 hbd3 ⊢
    simp only at hbd1 hbd2 hbd3 ⊢
    rw [w2] at hbd2 hbd3 ⊢
    simp only at hbd2 hbd3 ⊢
    rw [w3] at hbd3 ⊢
    simp only at hbd3 ⊢
    have hcat : ([] : List Int) ++ ((getF m [0, 0]).take M).map (·.1) ++ ((getF m [0, 0]).drop M).map (·.1) = A := by
      rw [List.nil_append, ← List.map_append, List.take_append_drop, h5]
    refine law_need ?_ (law_need ?_ ?_)
    · simp only [List.length_nil, List.length_map, List.length_take, decide_eq_true_eq]; omega
    · simp only [List.nil_append, List.length_map, List.length_take, List.length_drop, decide_eq_true_eq]; omega
    rw [hcat, h6]
    refine law_bind_eq (ints_ok A A (by rw [← h5, List.length_map]; omega)) (law_t (by simp) ?_)
    have hB : (getF m [0, 4]).length ≤ 60 := by
      have h8 : (getF m [0, 4]).length ≤ (allW m).length := by
        obtain ⟨P, Q, e1, _⟩ := all_set h3 [0, 4] []
        rw [e1]; simp only [List.length_append]; omega
      omega
    refine law_bind_eq (ints_ok B B (by rw [← h6, List.length_map]; omega)) (law_t (by simp) ?_)
    refine law_t ?_ (law_bind_eq (places_ok _ hbd3) (law_given fun _ => law_ok ?_))
    · rw [minI_eq, maxI_eq]
      have hm := wakeN_min (getF m [0, 0]) n
      rw [hM] at hm
      have hAl : A.length = (getF m [0, 0]).length := by rw [← h5, List.length_map]
      simp only [List.length_map, List.length_take, beq_iff_eq]
      rw [hAl]
      omega
    · rw [hend]; simp [placesF]
end Go.Mach

/-
  The plain law of WaitOnce.
-/
set_option maxRecDepth 10000
namespace Go.Mach
open Res

theorem get_le {l : ML} (h : WInv l) (k : List Int) : (getF l k).length ≤ (allW l).length := by
  obtain ⟨P, Q, e1, _⟩ := all_set h k []
  rw [e1]; simp only [List.length_append]; omega

/-- Who is taken away waits no more; who stays waits. -/
theorem has_drop {l : ML} (h : WInv l) (k : List Int) (M : Nat) : (∀ x ∈ (getF l k).take M, hasF (setF l k ((getF l k).drop M)) x.1 = false) ∧ ∀ x ∈ (getF l k).drop M, hasF (setF l k ((getF l k).drop M)) x.1 = true := by
  obtain ⟨A, B, e1, e2⟩ := all_set h k ((getF l k).drop M)
  have hag := h.ag
  constructor
  · intro x hx
    rw [Bool.eq_false_iff]
    intro hh
    rw [has_iff, e2] at hh
    have hsp : getF l k = (getF l k).take M ++ (getF l k).drop M := (List.take_append_drop M _).symm
    rw [e1, hsp] at hag
    simp only [List.map_append, List.nodup_append, List.mem_append] at hag hh
    obtain ⟨_, ⟨⟨_, _, h3⟩, _, h4⟩, h5⟩ := hag
    have hxm : x.1 ∈ ((getF l k).take M).map (·.1) := List.mem_map_of_mem hx
    rcases hh with hh | hh | hh
    · exact h5 _ hh _ (.inl (.inl hxm)) rfl
    · exact h3 _ hxm _ hh rfl
    · exact h4 _ (.inl hxm) _ hh rfl
  · intro x hx
    rw [has_iff, e2]
    exact List.mem_map_of_mem (List.mem_append_right _ (List.mem_append_left _ hx))

theorem has_push {l : ML} (h : WInv l) (k : List Int) (w : WT) : hasF (setF l k (getF l k ++ [w])) w.1 = true := by
  obtain ⟨A, B, e1, e2⟩ := all_set h k (getF l k ++ [w])
  rw [has_iff, e2]
  exact List.mem_map_of_mem (by simp)

theorem once_law (l : List (Int × Int × Int × Int × WT × Bool)) (blk at_ n : Int) : (R.renlaw22_WaitOnce l blk at_ n).sat (· = true) := by
  unfold R.renlaw22_WaitOnce
  refine law_given fun _ => law_bind_eq first_ok (law_f rfl (law_bind_eq new_ok (law_given fun _ => law_bind_eq (law_ok rfl) ?_)))
  refine law_br (fun _ => law_bind_eq first_ok (law_ok rfl)) fun hx0 => ?_
  rw [ilt_false] at hx0
  have hl : l.length ≤ 200 := by omega
  refine law_bind' (R := fun s : ML ⊕ Bool => ∃ m, s = .inl m ∧ WInv m ∧ (allW m).length ≤ 200) ?_ ?_
  · refine law_for (fun s : Int × ML => s.1) l.length (by omega) (fun s => 0 ≤ s.1 ∧ s.1 ≤ l.length ∧ WInv s.2 ∧ (allW s.2).length ≤ s.1.toNat) ⟨Int.le_refl _, by simp only; omega, WInv.nil, by simp [allW]⟩ (fun s h => ⟨h.1, h.2.1⟩) ?_
    rintro ⟨i, m⟩ ⟨h1, h2, h3, h4⟩
    simp only at h1 h2 h3 h4
    refine law_br (fun h => ?_) fun h => law_ok ?_
    case refine_2 =>
      rw [ilt_false] at h
      exact ⟨m, rfl, h3, Nat.le_trans h4 (by simp only at h; omega)⟩
    rw [ilt_true] at h
    simp only at h
    have hwi : IntKind.wrap .i64 (i + 1) = i + 1 := wrap64 (by omega)
    have hil : i.toNat < l.length := by omega
    obtain ⟨e, he⟩ : ∃ e, l[i.toNat]? = some e := ⟨_, List.getElem?_eq_getElem hil⟩
    have hbd : BdL m := bd_of h3 (N := 200) (by omega) (by omega)
    refine law_idxS h1 hil fun e6 he6 _ => ?_
    rw [he] at he6; cases he6
    refine law_br (fun hk => ?_) fun hk => law_br (fun hk1 => ?_) fun hk1 => ?_
    · refine law_idxS h1 hil fun e7 he7 _ => ?_
      rw [he] at he7; cases he7
      refine law_bind_eq (has_ok m e.2.2.2.2.1.1 hbd) (law_given fun _ => law_bind' (R := fun x : Bool × ML => x.1 = false ∧ WInv x.2 ∧ (allW x.2).length ≤ (i + 1).toNat) ?_ ?_)
      · refine law_idxS h1 hil fun e9 he9 _ => law_idxS h1 hil fun e10 he10 _ => law_idxS h1 hil fun e11 he11 _ => ?_
        rw [he] at he9 he10 he11; cases he9; cases he10; cases he11
        refine law_bind_eq (add_ok m e.2.1 e.2.2.1 e.2.2.2.2.1 hbd) (law_given fun _ => ?_)
        rcases addF_spec h3 e.2.1 e.2.2.1 e.2.2.2.2.1 with ⟨g1, g2⟩ | ⟨g1, g2, g3⟩
        · refine law_f (by simpa using g1) (law_ok ⟨rfl, ?_, ?_⟩)
          · rw [g2]; exact h3
          · rw [g2]; omega
        · refine law_t (by simpa using g1) (law_f (by exact g3) (law_idxS h1 hil fun e13 he13 _ => ?_))
          rw [he] at he13; cases he13
          rw [g2]
          have hinv := inv_add h3 e.2.1 e.2.2.1 e.2.2.2.2.1 g3
          have hall := allW_set_len h3 [e.2.1, e.2.2.1] (getF m [e.2.1, e.2.2.1] ++ [e.2.2.2.2.1])
          rw [List.length_append] at hall
          simp only [List.length_cons, List.length_nil] at hall
          have hl' : (allW (setF m [e.2.1, e.2.2.1] (getF m [e.2.1, e.2.2.1] ++ [e.2.2.2.2.1]))).length ≤ (i + 1).toNat := by omega
          have hbd' : BdL (setF m [e.2.1, e.2.2.1] (getF m [e.2.1, e.2.2.1] ++ [e.2.2.2.2.1])) := bd_of hinv (N := 200) (by omega) (by omega)
          refine law_bind_eq (has_ok _ e.2.2.2.2.1.1 hbd') (law_given fun _ => law_ok ⟨?_, hinv, hl'⟩)
          show (!hasF _ _) = false
          rw [has_push h3]; rfl
      · rintro ⟨x1, x2⟩ ⟨rfl, g2, g3⟩
        refine law_f rfl (law_ok ?_)
        rw [hwi]
        refine ⟨rfl, ?_, ?_, g2, g3⟩
        · show 0 ≤ i + 1
          omega
        · show i + 1 ≤ _
          omega
    · refine law_idxS h1 hil fun e9 he9 _ => law_idxS h1 hil fun e10 he10 _ => law_idxS h1 hil fun e11 he11 _ => law_idxS h1 hil fun e12 he12 _ => ?_
      rw [he] at he9 he10 he11 he12; cases he9; cases he10; cases he11; cases he12
      refine law_bind_eq (wake_ok m e.2.1 e.2.2.1 e.2.2.2.1 e.2.2.2.2.2 hbd) (law_given fun _ => law_ok ?_)
      obtain ⟨g1, g2⟩ := inv_wake h3 e.2.1 e.2.2.1 e.2.2.2.1 e.2.2.2.2.2
      rw [hwi]
      refine ⟨rfl, ?_, ?_, g1, Nat.le_trans g2 ?_⟩
      · show 0 ≤ i + 1
        omega
      · show i + 1 ≤ _
        omega
      · show _ ≤ (i + 1).toNat
        omega
    · refine law_ok ?_
      rw [hwi]
      refine ⟨rfl, ?_, ?_, h3, ?_⟩
      · show 0 ≤ i + 1
        omega
      · show i + 1 ≤ _
        omega
      · show (allW m).length ≤ (i + 1).toNat
        omega
  · rintro _ ⟨m, rfl, h3, h4⟩
    refine law_inl ?_
    have hbd : BdL m := bd_of h3 h4 (by omega)
    have hg200 : (getF m [blk, at_]).length ≤ 200 := Nat.le_trans (get_le h3 _) h4
    obtain ⟨i1, s1⟩ := inv_wake h3 blk at_ n false
    generalize hM : wakeN (getF m [blk, at_]) n false = M
    have hMl : M ≤ (getF m [blk, at_]).length := by rw [← hM]; exact wakeN_le _ _ _
    have hmin := wakeN_min (getF m [blk, at_]) n
    rw [hM] at hmin
    have w1 : (wakeF m blk at_ n false) = (((getF m [blk, at_]).take M).map (·.1), setF m [blk, at_] ((getF m [blk, at_]).drop M)) := by unfold wakeF; rw [hM]
    rw [w1] at i1 s1
    simp only at i1 s1
    have hbd1 := bd_of i1 (Nat.le_trans s1 h4) (by omega)
    have f1 : getF (setF m [blk, at_] ((getF m [blk, at_]).drop M)) [blk, at_] = (getF m [blk, at_]).drop M := by rw [get_set h3, if_pos rfl]
    obtain ⟨hd1, hd2⟩ := has_drop h3 [blk, at_] M
    generalize hm1 : setF m [blk, at_] ((getF m [blk, at_]).drop M) = m1 at *
    generalize hwas : getF m [blk, at_] = was at *
    refine law_bind_eq (hwas ▸ at_ok m blk at_ hbd) (law_given fun _ => law_bind_eq (w1 ▸ wake_ok m blk at_ n false hbd) (law_given fun _ => law_bind_eq (f1 ▸ at_ok m1 blk at_ hbd1) (law_given fun _ => law_bind_eq (a := false) ?_ (law_f rfl ?_))))
    · refine law_f ?_ (law_ok ?_)
      · rw [minI_eq, maxI_eq]
        simp only [List.length_map, List.length_take, Bool.not_eq_false', beq_iff_eq]
        omega
      · simp only [List.length_map, List.length_take, List.length_drop]
        rw [wrap64 (by omega)]
        simp only [Bool.not_eq_false', beq_iff_eq]
        omega
    · have hal : ((was.take M).map (·.1)).length = M := by rw [List.length_map, List.length_take]; omega
      refine law_bind' (R := fun z : Unit ⊕ Bool => ∃ u, z = .inl u) (law_for (fun s : Int × ML => s.1) was.length (by omega) (fun s => 0 ≤ s.1 ∧ s.1 ≤ was.length ∧ s.2 = m1) ⟨Int.le_refl _, by simp only; omega, rfl⟩ (fun s h => ⟨h.1, h.2.1⟩) ?_) ?_
      · rintro ⟨i, q⟩ ⟨g1, g2, g3⟩
        simp only at g1 g2 g3
        subst g3
        refine law_br (fun g => ?_) fun g => law_ok ⟨(), rfl⟩
        rw [ilt_true] at g
        simp only at g
        have hwi : IntKind.wrap .i64 (i + 1) = i + 1 := wrap64 (by omega)
        have hil : i.toNat < was.length := by omega
        obtain ⟨e, he⟩ : ∃ e, was[i.toNat]? = some e := ⟨_, List.getElem?_eq_getElem hil⟩
        have hnW : (ile 0 i && ilt i was.length) = true := by rw [Bool.and_eq_true, ile_true, ilt_true]; exact ⟨g1, g⟩
        refine law_bind_eq (a := (false, q)) ?_ (law_f rfl (law_ok ?_))
        · refine law_br (fun k => ?_) fun k => ?_
          · rw [ilt_true, hal] at k
            simp only at k
            have hnA : (ile 0 i && ilt i ((was.take M).map (·.1)).length) = true := by rw [Bool.and_eq_true, ile_true, ilt_true, hal]; exact ⟨g1, k⟩
            have hae : ((was.take M).map (·.1))[i.toNat]? = some e.1 := by rw [List.getElem?_map, List.getElem?_take_of_lt (by omega), he]; rfl
            refine law_need hnA (law_idx (by simp only; omega) (by rw [idx0, hal]; simp only; omega) fun e29 h29 _ => law_need hnW (law_idx (by simp only; omega) (by rw [idx0]; simp only; omega) fun e30 h30 _ => ?_))
            rw [idx0] at h29 h30
            have h29 : some e.1 = some e29 := hae ▸ h29
            have h30 : some e = some e30 := he ▸ h30
            cases h29; cases h30
            refine law_f (by simp) (law_need hnA (law_idx (by simp only; omega) (by rw [idx0, hal]; simp only; omega) fun e31 h31 _ => ?_))
            rw [idx0] at h31
            have h31 : some e.1 = some e31 := hae ▸ h31
            cases h31
            have hmem : e ∈ was.take M := List.mem_of_getElem? (i := i.toNat) (by rw [List.getElem?_take_of_lt (by omega), he])
            refine law_bind_eq (hd1 e hmem ▸ has_ok q e.1 hbd1) (law_given fun _ => law_f rfl (law_f ?_ (law_ok rfl)))
            rw [ile_false, hal]; exact k
          · rw [ilt_false, hal] at k
            simp only at k
            have hsub : IntKind.wrap .i64 (i - (((was.take M).map (·.1)).length : Int)) = i - M := by rw [hal]; exact wrap64 (by omega)
            rw [hsub]
            have hdl : (was.drop M).length = was.length - M := List.length_drop
            refine law_t (by rw [ile_true, hal]; exact k) (law_need (by rw [Bool.and_eq_true, ile_true, ilt_true, hdl]; omega) (law_idx (by omega) (by rw [idx0, hdl]; omega) fun e37 h37 _ => law_need hnW (law_idx (by simp only; omega) (by rw [idx0]; simp only; omega) fun e38 h38 _ => ?_)))
            rw [idx0] at h37 h38
            have h38 : some e = some e38 := he ▸ h38
            cases h38
            have hde : (was.drop M)[(i - (M : Int)).toNat]? = some e := by rw [List.getElem?_drop, show M + (i - (M : Int)).toNat = i.toNat by omega, he]
            have h37 : some e = some e37 := hde ▸ h37
            cases h37
            refine law_f (by simp) (law_need hnW (law_idx (by simp only; omega) (by rw [idx0]; simp only; omega) fun e39 h39 _ => ?_))
            rw [idx0] at h39
            have h39 : some e = some e39 := he ▸ h39
            cases h39
            have hmem : e ∈ was.drop M := List.mem_of_getElem? hde
            exact law_bind_eq (hd2 e hmem ▸ has_ok q e.1 hbd1) (law_given fun _ => law_ok rfl)
        · rw [hwi]
          refine ⟨rfl, ?_, ?_, rfl⟩
          · show 0 ≤ i + 1
            omega
          · show i + 1 ≤ _
            omega
      · rintro _ ⟨u, rfl⟩
        exact law_inl (law_bind_eq first_ok (law_ok rfl))
end Go.Mach

/-
  The plain law of WaitTimes.
-/
set_option maxRecDepth 10000
namespace Go.Mach
open Res

theorem setF_same {l : ML} (h : WInv l) (k : List Int) : setF l k (getF l k) = l := by
  obtain ⟨l1, l2, _, _, h3, h4⟩ := set_split h k
  rw [h4, ← h3]

/-- The waiters of the places of a list of places. -/
def atAll (l : ML) (ps : List (Int × Int)) : List WT := ps.flatMap fun p => getF l [p.1, p.2]

theorem places_perm (l : ML) : (placesF l).Perm (l.map fun e => (e.1.getD 0 0, e.1.getD 1 0)) := List.mergeSort_perm _ _

theorem getF_mem {l : ML} (h : WInv l) {e : List Int × List WT} (he : e ∈ l) : getF l e.1 = e.2 := by
  obtain ⟨j, hj, rfl⟩ := List.getElem_of_mem he
  exact getF_some (keyIx_some h.nd hj rfl) (List.getElem?_eq_getElem hj)

theorem key_of {l : ML} (h : WInv l) {e : List Int × List WT} (he : e ∈ l) : [e.1.getD 0 0, e.1.getD 1 0] = e.1 := by
  obtain ⟨b, a, hba⟩ := h.k2 e he
  rw [hba]; rfl

theorem atAll_self {l : ML} (h : WInv l) : atAll l (l.map fun e => (e.1.getD 0 0, e.1.getD 1 0)) = allW l := by
  unfold atAll allW
  rw [List.flatMap_map]
  have : ∀ (m : ML), (∀ e ∈ m, e ∈ l) → (m.flatMap fun e => getF l [e.1.getD 0 0, e.1.getD 1 0]) = m.flatMap (·.2) := by
    intro m
    induction m with
    | nil => intro _; rfl
    | cons e m ih =>
      intro hm
      rw [List.flatMap_cons, List.flatMap_cons, ih fun e he => hm e (by simp [he]), key_of h (hm e (by simp)), getF_mem h (hm e (by simp))]
  exact this l fun _ h => h

theorem atAll_perm {l : ML} (h : WInv l) : (atAll l (placesF l)).Perm (allW l) := by
  rw [← atAll_self h]
  unfold atAll
  exact (places_perm l).flatMap_right _

theorem places_nodup {l : ML} (h : WInv l) : (placesF l).Nodup := by
  refine (places_perm l).nodup_iff.2 ?_
  have hnd := h.nd
  have : ∀ (m : ML), (∀ e ∈ m, e ∈ l) → (m.map (·.1)).Nodup → (m.map fun e => (e.1.getD 0 0, e.1.getD 1 0)).Nodup := by
    intro m
    induction m with
    | nil => intro _ _; simp
    | cons e m ih =>
      intro hm hn
      simp only [List.map_cons, List.nodup_cons] at hn ⊢
      refine ⟨fun hx => ?_, ih (fun e he => hm e (by simp [he])) hn.2⟩
      obtain ⟨e', he', heq⟩ := List.mem_map.1 hx
      simp only [Prod.mk.injEq] at heq
      have h1 := key_of h (hm e (by simp))
      have h2 := key_of h (hm e' (by simp [he']))
      rw [heq.1, heq.2, h1] at h2
      exact hn.1 (List.mem_map.2 ⟨e', he', h2.symm⟩)
  exact this l (fun _ h => h) hnd

theorem filt_len (f : WT → Bool) : ∀ (v : List WT), (v.filter f).length + (v.filter fun w => !f w).length = v.length
  | [] => rfl
  | x :: v => by
    have := filt_len f v
    rw [List.filter_cons, List.filter_cons]
    cases f x <;> simp <;> omega

/-- Who is taken away by an expiry, who stays. -/
def gone (now : Int) (v : List WT) : List WT := v.filter fun w => !stays now w

/-- An expiry over some places. -/
theorem exp_fold (now : Int) : ∀ (ps : List (Int × Int)) (out : List Int) (l : ML), WInv l → ps.Nodup →
    ∃ l', (ps.foldl (expStep now) (out, l)) = (out ++ (gone now (atAll l ps)).map (·.1), l') ∧ WInv l' ∧ (allW l').length + (gone now (atAll l ps)).length = (allW l).length ∧
      (∀ k, getF l' k = if k ∈ ps.map (fun p => [p.1, p.2]) then (getF l k).filter (stays now) else getF l k) ∧ (∀ w ∈ allW l', w ∈ allW l) ∧ ∀ w ∈ gone now (atAll l ps), w ∈ allW l ∧ hasF l' w.1 = false
  | [], out, l, h, _ => ⟨l, by simp [atAll, gone], h, by simp [atAll, gone], fun k => by simp, fun _ h => h, fun w hw => by simp [atAll, gone] at hw⟩
  | p :: ps, out, l, h, hnd => by
    rw [List.nodup_cons] at hnd
    have hk : ∀ q ∈ ps, [q.1, q.2] ≠ [p.1, p.2] := fun q hq e => by
      have : q = p := by
        simp only [List.cons.injEq, and_true] at e
        exact Prod.ext e.1 e.2
      exact hnd.1 (this ▸ hq)
    have hinv := inv_part h p.1 p.2 ((getF l [p.1, p.2]).filter (stays now)) List.filter_sublist
    have hlen := allW_set_len h [p.1, p.2] ((getF l [p.1, p.2]).filter (stays now))
    have hfl : ((getF l [p.1, p.2]).filter (stays now)).length + (gone now (getF l [p.1, p.2])).length = (getF l [p.1, p.2]).length := by
      unfold gone
      exact filt_len _ _
    have hat : atAll (setF l [p.1, p.2] ((getF l [p.1, p.2]).filter (stays now))) ps = atAll l ps := by
      unfold atAll
      have : ∀ (qs : List (Int × Int)), (∀ q ∈ qs, [q.1, q.2] ≠ [p.1, p.2]) → (qs.flatMap fun q => getF (setF l [p.1, p.2] ((getF l [p.1, p.2]).filter (stays now))) [q.1, q.2]) = qs.flatMap fun q => getF l [q.1, q.2] := by
        intro qs
        induction qs with
        | nil => intro _; rfl
        | cons q qs ih =>
          intro hq
          rw [List.flatMap_cons, List.flatMap_cons, ih fun q' hq' => hq q' (by simp [hq']), get_set h, if_neg (hq q (by simp))]
      exact this ps hk
    obtain ⟨l', e1, e2, e3, e4, e5, e6⟩ := exp_fold now ps (out ++ (gone now (getF l [p.1, p.2])).map (·.1)) _ hinv hnd.2
    rw [hat] at e1 e3 e6
    have hga : gone now (atAll l (p :: ps)) = gone now (getF l [p.1, p.2]) ++ gone now (atAll l ps) := by
      unfold gone atAll; rw [List.flatMap_cons, List.filter_append]
    obtain ⟨A, B, a1, a2⟩ := all_set h [p.1, p.2] ((getF l [p.1, p.2]).filter (stays now))
    have hsubW : ∀ w ∈ allW (setF l [p.1, p.2] ((getF l [p.1, p.2]).filter (stays now))), w ∈ allW l := fun w hw => by
      rw [a2] at hw; rw [a1]
      rcases List.mem_append.1 hw with hw | hw
      · exact List.mem_append_left _ hw
      · rcases List.mem_append.1 hw with hw | hw
        · exact List.mem_append_right _ (List.mem_append_left _ (List.mem_filter.1 hw).1)
        · exact List.mem_append_right _ (List.mem_append_right _ hw)
    refine ⟨l', ?_, e2, ?_, fun k => ?_, fun w hw => hsubW w (e5 w hw), fun w hw => ?_⟩
    · rw [List.foldl_cons]
      show ps.foldl (expStep now) (out ++ (gone now (getF l [p.1, p.2])).map (·.1), setF l [p.1, p.2] ((getF l [p.1, p.2]).filter (stays now))) = _
      rw [e1, hga]; simp
    · rw [hga, List.length_append]; omega
    · rw [e4 k, get_set h]
      simp only [List.map_cons, List.mem_cons]
      by_cases h1 : k = [p.1, p.2]
      · subst h1
        have h2 : ¬ ([p.1, p.2] ∈ ps.map fun p => [p.1, p.2]) := fun hm => by
          obtain ⟨q, hq, hqe⟩ := List.mem_map.1 hm
          exact hk q hq hqe
        simp [h2]
      · simp only [h1, if_false, false_or]
    · rw [hga] at hw
      rcases List.mem_append.1 hw with hw | hw
      · have hwg : w ∈ getF l [p.1, p.2] := (List.mem_filter.1 hw).1
        refine ⟨get_sub _ w hwg, ?_⟩
        rw [Bool.eq_false_iff]
        intro hh
        rw [has_iff] at hh
        obtain ⟨u, hu, hue⟩ := List.mem_map.1 hh
        have hu2 := e5 u hu
        have hag := h.ag
        rw [a1] at hag
        rw [a2] at hu2
        have huw : u = w := by
          have h1 : u ∈ A ++ (getF l [p.1, p.2] ++ B) := by
            have := hsubW u (e5 u hu); rw [a1] at this; exact this
          have h2 : w ∈ A ++ (getF l [p.1, p.2] ++ B) := List.mem_append_right _ (List.mem_append_left _ hwg)
          have hinj : ∀ (L : List WT), (L.map (·.1)).Nodup → ∀ x ∈ L, ∀ y ∈ L, x.1 = y.1 → x = y := by
            intro L
            induction L with
            | nil => intro _ x hx; cases hx
            | cons z L ih =>
              intro hn x hx y hy hxy
              rw [List.map_cons, List.nodup_cons] at hn
              rcases List.mem_cons.1 hx with e1 | hx' <;> rcases List.mem_cons.1 hy with e2 | hy'
              · rw [e1, e2]
              · exact (hn.1 (List.mem_map.2 ⟨y, hy', by rw [← hxy, e1]⟩)).elim
              · exact (hn.1 (List.mem_map.2 ⟨x, hx', by rw [hxy, e2]⟩)).elim
              · exact ih hn.2 x hx' y hy' hxy
          exact hinj _ hag u h1 w h2 hue
        subst huw
        have hns : stays now u = false := by
          have := (List.mem_filter.1 hw).2
          simpa using this
        -- u stays among those of the changed lists: it cannot
        simp only [List.map_append, List.nodup_append] at hag
        obtain ⟨_, ⟨_, _, h4⟩, h5⟩ := hag
        have hum : u.1 ∈ (getF l [p.1, p.2]).map (·.1) := List.mem_map_of_mem hwg
        rcases List.mem_append.1 hu2 with hu2 | hu2
        · exact h5 _ (List.mem_map_of_mem hu2) _ (List.mem_append_left _ hum) rfl
        · rcases List.mem_append.1 hu2 with hu2 | hu2
          · have := (List.mem_filter.1 hu2).2
            rw [hns] at this; cases this
          · exact h4 _ hum _ (List.mem_map_of_mem hu2) rfl
      · obtain ⟨h1, h2⟩ := e6 w hw
        exact ⟨hsubW w h1, h2⟩

theorem exp_spec {l : ML} (h : WInv l) (now : Int) : ∃ l', expF l now = ((gone now (atAll l (placesF l))).map (·.1), l') ∧ WInv l' ∧ (allW l').length + (gone now (atAll l (placesF l))).length = (allW l).length ∧
    (∀ w ∈ allW l', stays now w = true ∧ w ∈ allW l) ∧ ∀ w ∈ gone now (atAll l (placesF l)), w ∈ allW l ∧ stays now w = false ∧ hasF l' w.1 = false := by
  obtain ⟨l', e1, e2, e3, e4, e5, e6⟩ := exp_fold now (placesF l) [] l h (places_nodup h)
  refine ⟨l', by unfold expF; rw [e1, List.nil_append], e2, e3, fun w hw => ⟨?_, e5 w hw⟩, fun w hw => ⟨(e6 w hw).1, ?_, (e6 w hw).2⟩⟩
  · -- where w waits
    have h1 := (atAll_perm e2).mem_iff.2 hw
    unfold atAll at h1
    obtain ⟨p, hp, hwp⟩ := List.mem_flatMap.1 h1
    rw [e4] at hwp
    split at hwp
    · exact (List.mem_filter.1 hwp).2
    · rename_i hn
      -- a place of l' that is none of l: it is empty
      exfalso
      have : getF l [p.1, p.2] = [] := by
        refine getF_none (keyIx_none fun e he hek => ?_)
        refine hn (List.mem_map.2 ⟨(e.1.getD 0 0, e.1.getD 1 0), (places_perm l).mem_iff.2 (List.mem_map.2 ⟨e, he, rfl⟩), ?_⟩)
        rw [← hek]; exact key_of h he
      rw [this] at hwp; cases hwp
  · have := (List.mem_filter.1 hw).2
    simpa using this
end Go.Mach

/-
  The plain law of WaitTimes (2).
-/
set_option maxRecDepth 10000
namespace Go.Mach
open Res

theorem atAll_take (l : ML) (ps : List (Int × Int)) (j : Nat) (p : Int × Int) (h : ps[j]? = some p) : (atAll l (ps.take (j + 1))) = atAll l (ps.take j) ++ getF l [p.1, p.2] := by
  unfold atAll
  rw [List.take_succ, h]
  simp

theorem atAll_take_len {l : ML} (h : WInv l) (ps : List (Int × Int)) (hp : ps = placesF l) (j : Nat) : (atAll l (ps.take j)).length ≤ (allW l).length := by
  subst hp
  rw [← (atAll_perm h).length_eq]
  have : atAll l (placesF l) = atAll l ((placesF l).take j) ++ atAll l ((placesF l).drop j) := by
    unfold atAll
    rw [← List.flatMap_append, List.take_append_drop]
  rw [this, List.length_append]; omega

theorem times_law (l : List (Int × Int × Int × Int × WT × Bool)) (now later : Int) : (R.renlaw22_WaitTimes l now later).sat (· = true) := by
  unfold R.renlaw22_WaitTimes
  refine law_given fun _ => law_bind_eq first_ok (law_f rfl (law_bind_eq new_ok (law_given fun _ => law_bind_eq (law_ok rfl) ?_)))
  refine law_br (fun _ => law_bind_eq first_ok (law_ok rfl)) fun hx0 => ?_
  rw [ilt_false] at hx0
  have hl : l.length ≤ 200 := by omega
  refine law_bind' (R := fun m : ML => WInv m ∧ (allW m).length ≤ 200) ?_ ?_
  · refine law_for (fun s : Int × ML => s.1) l.length (by omega) (fun s => 0 ≤ s.1 ∧ s.1 ≤ l.length ∧ WInv s.2 ∧ (allW s.2).length ≤ s.1.toNat) ⟨Int.le_refl _, by simp only; omega, WInv.nil, by simp [allW]⟩ (fun s h => ⟨h.1, h.2.1⟩) ?_
    rintro ⟨i, m⟩ ⟨h1, h2, h3, h4⟩
    simp only at h1 h2 h3 h4
    refine law_br (fun h => ?_) fun h => law_ok ?_
    case refine_2 =>
      rw [ilt_false] at h
      exact ⟨h3, Nat.le_trans h4 (by simp only at h; omega)⟩
    rw [ilt_true] at h
    simp only at h
    have hwi : IntKind.wrap .i64 (i + 1) = i + 1 := wrap64 (by omega)
    have hil : i.toNat < l.length := by omega
    obtain ⟨e, he⟩ : ∃ e, l[i.toNat]? = some e := ⟨_, List.getElem?_eq_getElem hil⟩
    have hbd : BdL m := bd_of h3 (N := 200) (by omega) (by omega)
    refine law_idxS h1 hil fun e9 he9 _ => law_idxS h1 hil fun e10 he10 _ => law_idxS h1 hil fun e11 he11 _ => ?_
    rw [he] at he9 he10 he11; cases he9; cases he10; cases he11
    refine law_bind_eq (add_ok m e.2.1 e.2.2.1 e.2.2.2.2.1 hbd) (law_given fun _ => law_ok ?_)
    rw [hwi]
    refine ⟨rfl, ?_, ?_, ?_⟩
    · show 0 ≤ i + 1
      omega
    · show i + 1 ≤ _
      omega
    · show WInv (addF m e.2.1 e.2.2.1 e.2.2.2.2.1).2 ∧ (allW (addF m e.2.1 e.2.2.1 e.2.2.2.2.1).2).length ≤ (i + 1).toNat
      rcases addF_spec h3 e.2.1 e.2.2.1 e.2.2.2.2.1 with ⟨g1, g2⟩ | ⟨g1, g2, g3⟩
      · rw [g2]; exact ⟨h3, by omega⟩
      · rw [g2]
        have hinv := inv_add h3 e.2.1 e.2.2.1 e.2.2.2.2.1 g3
        have hall := allW_set_len h3 [e.2.1, e.2.2.1] (getF m [e.2.1, e.2.2.1] ++ [e.2.2.2.2.1])
        rw [List.length_append] at hall
        simp only [List.length_cons, List.length_nil] at hall
        exact ⟨hinv, by omega⟩
  rintro m ⟨h3, h4⟩
  have hbd : BdL m := bd_of h3 h4 (by omega)
  refine law_bind_eq (places_ok m hbd) (law_given fun _ => ?_)
  have hpl : (placesF m).length ≤ 2 ^ 20 := by rw [places_len]; exact hbd.1
  -- how many wait
  refine law_bind' (R := fun s : Int × ML => s = (((allW m).length : Int), m)) ?_ ?_
  · refine law_for (fun s : Int × Int × ML => s.2.1) (placesF m).length (by omega) (fun s => 0 ≤ s.2.1 ∧ s.2.1 ≤ (placesF m).length ∧ s.2.2 = m ∧ s.1 = (atAll m ((placesF m).take s.2.1.toNat)).length) ⟨Int.le_refl _, by simp only; omega, rfl, by simp [atAll]⟩ (fun s h => ⟨h.1, h.2.1⟩) ?_
    rintro ⟨c, i, q⟩ ⟨g1, g2, g3, g4⟩
    simp only at g1 g2 g3 g4
    subst g3
    refine law_br (fun g => ?_) fun g => law_ok ?_
    case refine_2 =>
      rw [ilt_false] at g
      simp only at g
      rw [List.take_of_length_le (by omega), (atAll_perm h3).length_eq] at g4
      show (c, q) = _
      rw [g4]
    rw [ilt_true] at g
    simp only at g
    have hil : i.toNat < (placesF q).length := by omega
    obtain ⟨p, hp⟩ : ∃ p, (placesF q)[i.toNat]? = some p := ⟨_, List.getElem?_eq_getElem hil⟩
    have hn : (ile 0 i && ilt i (placesF q).length) = true := by rw [Bool.and_eq_true, ile_true, ilt_true]; exact ⟨g1, g⟩
    refine law_need hn (law_idx (by simp only; omega) (by rw [idx0]; exact hil) fun e13 h13 _ => law_need hn (law_idx (by simp only; omega) (by rw [idx0]; exact hil) fun e14 h14 _ => ?_))
    rw [idx0] at h13 h14
    have h13 : some p = some e13 := hp ▸ h13
    have h14 : some p = some e14 := hp ▸ h14
    cases h13; cases h14
    refine law_bind_eq (at_ok q p.1 p.2 hbd) (law_given fun _ => law_ok ?_)
    have hwi : IntKind.wrap .i64 (i + 1) = i + 1 := wrap64 (by omega)
    have hle := atAll_take_len h3 _ rfl i.toNat
    have hgl := get_le h3 [p.1, p.2]
    have hwc : IntKind.wrap .i64 (c + ((getF q [p.1, p.2]).length : Int)) = c + (getF q [p.1, p.2]).length := wrap64 (by omega)
    rw [hwi]
    refine ⟨rfl, ?_, ?_, rfl, ?_⟩
    · show 0 ≤ i + 1
      omega
    · show i + 1 ≤ _
      omega
    · show IntKind.wrap .i64 (c + ((getF q [p.1, p.2]).length : Int)) = ((atAll q ((placesF q).take (i + 1).toNat)).length : Int)
      rw [hwc, show (i + 1).toNat = i.toNat + 1 by omega, atAll_take _ _ _ _ hp, List.length_append, g4]
      omega
  rintro _ rfl
  obtain ⟨m1, x1, x2, x3, x4, x5⟩ := exp_spec h3 now
  generalize hG : gone now (atAll m (placesF m)) = G at *
  refine law_bind_eq (x1 ▸ exp_ok m now hbd) (law_given fun _ => ?_)
  have h41 : (allW m1).length ≤ 200 := by omega
  have hbd1 : BdL m1 := bd_of x2 h41 (by omega)
  refine law_bind_eq (places_ok m1 hbd1) (law_given fun _ => ?_)
  have hpl1 : (placesF m1).length ≤ 2 ^ 20 := by rw [places_len]; exact hbd1.1
  -- who is left
  refine law_bind' (R := fun z : (Int × ML) ⊕ Bool => z = .inl (((allW m1).length : Int), m1)) ?_ ?_
  · refine law_for (fun s : Int × Int × ML => s.2.1) (placesF m1).length (by omega) (fun s => 0 ≤ s.2.1 ∧ s.2.1 ≤ (placesF m1).length ∧ s.2.2 = m1 ∧ s.1 = (atAll m1 ((placesF m1).take s.2.1.toNat)).length) ⟨Int.le_refl _, by simp only; omega, rfl, by simp [atAll]⟩ (fun s h => ⟨h.1, h.2.1⟩) ?_
    rintro ⟨c, i, q⟩ ⟨g1, g2, g3, g4⟩
    simp only at g1 g2 g3 g4
    subst g3
    refine law_br (fun g => ?_) fun g => law_ok ?_
    case refine_2 =>
      rw [ilt_false] at g
      simp only at g
      rw [List.take_of_length_le (by omega), (atAll_perm x2).length_eq] at g4
      rw [g4]
    rw [ilt_true] at g
    simp only at g
    have hil : i.toNat < (placesF q).length := by omega
    obtain ⟨p, hp⟩ : ∃ p, (placesF q)[i.toNat]? = some p := ⟨_, List.getElem?_eq_getElem hil⟩
    have hn : (ile 0 i && ilt i (placesF q).length) = true := by rw [Bool.and_eq_true, ile_true, ilt_true]; exact ⟨g1, g⟩
    refine law_need hn (law_idx (by simp only; omega) (by rw [idx0]; exact hil) fun e13 h13 _ => law_need hn (law_idx (by simp only; omega) (by rw [idx0]; exact hil) fun e14 h14 _ => ?_))
    rw [idx0] at h13 h14
    have h13 : some p = some e13 := hp ▸ h13
    have h14 : some p = some e14 := hp ▸ h14
    cases h13; cases h14
    refine law_bind_eq (at_ok q p.1 p.2 hbd1) (law_given fun _ => ?_)
    have hwi : IntKind.wrap .i64 (i + 1) = i + 1 := wrap64 (by omega)
    have hle := atAll_take_len x2 _ rfl i.toNat
    have hgl := get_le x2 [p.1, p.2]
    have hwc : IntKind.wrap .i64 (c + ((getF q [p.1, p.2]).length : Int)) = c + (getF q [p.1, p.2]).length := wrap64 (by omega)
    have hgs : ∀ w ∈ getF q [p.1, p.2], stays now w = true := fun w hw => (x4 w (get_sub _ w hw)).1
    generalize hv : getF q [p.1, p.2] = v at *
    refine law_bind' (R := fun z : Unit ⊕ Bool => ∃ u, z = .inl u) (law_for (fun x : Int => x) v.length (by omega) (fun x => 0 ≤ x ∧ x ≤ v.length) ⟨Int.le_refl _, by omega⟩ (fun x h => h) ?_) ?_
    · rintro k ⟨k1, k2⟩
      refine law_br (fun k3 => ?_) fun k3 => law_ok ⟨(), rfl⟩
      have k3 : k < (v.length : Int) := by rw [ilt_true] at k3; exact k3
      have hkl : k.toNat < v.length := by omega
      have hnk : (ile 0 k && ilt k v.length) = true := by rw [Bool.and_eq_true, ile_true, ilt_true]; exact ⟨k1, k3⟩
      refine law_bind_eq (a := false) (law_need hnk (law_idx (by omega) (by rw [idx0]; exact hkl) fun e24 h24 _ => ?_)) (law_f rfl (law_ok ⟨?_, ?_, ?_⟩))
      · rw [idx0] at h24
        have hst := hgs e24 (List.mem_of_getElem? h24)
        refine law_br (fun y => law_need hnk (law_idx (by omega) (by rw [idx0]; exact hkl) fun e25 h25 _ => law_ok ?_)) fun y => law_ok rfl
        rw [idx0] at h25
        have h25 : some e24 = some e25 := h24 ▸ h25
        cases h25
        unfold stays at hst
        have y : e24.2.2 = false := by simpa using y
        rw [y, Bool.false_or] at hst
        rw [ile_false]
        simpa using hst
      · rw [wrap64 (by omega)]
      · rw [wrap64 (by omega)]; omega
      · rw [wrap64 (by omega)]; omega
    · rintro _ ⟨u, rfl⟩
      refine law_inl (law_ok ?_)
      rw [hwi]
      refine ⟨rfl, ?_, ?_, rfl, ?_⟩
      · show 0 ≤ i + 1
        omega
      · show i + 1 ≤ _
        omega
      · show IntKind.wrap .i64 (c + (v.length : Int)) = ((atAll q ((placesF q).take (i + 1).toNat)).length : Int)
        rw [hwc, show (i + 1).toNat = i.toNat + 1 by omega, atAll_take _ _ _ _ hp, List.length_append, g4, hv]
        omega
  rintro _ rfl
  refine law_inl ?_
  obtain ⟨m2, y1, y2, y3, y4, y5⟩ := exp_spec x2 later
  generalize hG2 : gone later (atAll m1 (placesF m1)) = G2 at *
  refine law_bind_eq (y1 ▸ exp_ok m1 later hbd1) (law_given fun _ => ?_)
  have hG200 : G.length ≤ 200 := by omega
  have hG2200 : G2.length ≤ 200 := by omega
  have hapart : ∀ x ∈ G.map (·.1), ∀ y ∈ G2.map (·.1), x ≠ y := by
    intro x hx y hy hxy
    obtain ⟨u, hu, rfl⟩ := List.mem_map.1 hx
    obtain ⟨w, hw, rfl⟩ := List.mem_map.1 hy
    have h1 := (x5 u hu).2.2
    have h2 : hasF m1 u.1 = true := by
      rw [hxy, has_iff]
      exact List.mem_map_of_mem (y5 w hw).1
    rw [h1] at h2; cases h2
  refine law_bind' (R := fun z : Unit ⊕ Bool => ∃ u, z = .inl u) (law_for (fun x : Int => x) G.length (by omega) (fun x => 0 ≤ x ∧ x ≤ G.length) ⟨Int.le_refl _, by omega⟩ (fun x h => h) ?_) ?_
  · rintro i ⟨i1, i2⟩
    refine law_br (fun i3 => ?_) fun i3 => law_ok ⟨(), rfl⟩
    rw [ilt_true, List.length_map] at i3
    refine law_bind' (R := fun z : Unit ⊕ Bool => ∃ u, z = .inl u) (law_for (fun x : Int => x) G2.length (by omega) (fun x => 0 ≤ x ∧ x ≤ G2.length) ⟨Int.le_refl _, by omega⟩ (fun x h => h) ?_) ?_
    · rintro k ⟨k1, k2⟩
      refine law_br (fun k3 => ?_) fun k3 => law_ok ⟨(), rfl⟩
      rw [ilt_true, List.length_map] at k3
      refine law_need (by rw [Bool.and_eq_true, ile_true, ilt_true, List.length_map]; exact ⟨i1, i3⟩) (law_idx (by omega) (by rw [idx0, List.length_map]; omega) fun e36 h36 _ => law_need (by rw [Bool.and_eq_true, ile_true, ilt_true, List.length_map]; exact ⟨k1, k3⟩) (law_idx (by omega) (by rw [idx0, List.length_map]; omega) fun e37 h37 _ => ?_))
      rw [idx0] at h36 h37
      have hne := hapart e36 (List.mem_of_getElem? h36) e37 (List.mem_of_getElem? h37)
      refine law_f (by simpa using hne) (law_ok ⟨?_, ?_, ?_⟩)
      · rw [wrap64 (by omega)]
      · rw [wrap64 (by omega)]; omega
      · rw [wrap64 (by omega)]; omega
    · rintro _ ⟨u, rfl⟩
      refine law_inl (law_ok ⟨?_, ?_, ?_⟩)
      · rw [wrap64 (by omega)]
      · rw [wrap64 (by omega)]; omega
      · rw [wrap64 (by omega)]; omega
  · rintro _ ⟨u, rfl⟩
    refine law_inl (law_bind_eq first_ok (law_t rfl (law_t ?_ (law_br (fun _ => law_ok rfl) fun hnl => law_ok ?_))))
    · simp only [List.length_map, beq_iff_eq]
      rw [wrap64 (by omega)]
      omega
    · rw [ilt_false] at hnl
      have : G2 = [] := by
        apply List.eq_nil_iff_forall_not_mem.2
        intro w hw
        obtain ⟨h1, h2, _⟩ := y5 w hw
        have h5 := (x4 w h1).1
        unfold stays at h2 h5
        simp only [Bool.or_eq_true, decide_eq_true_eq, Bool.or_eq_false_iff, decide_eq_false_iff_not] at h2 h5
        rcases h5 with h5 | h5
        · rw [h5] at h2; cases h2.1
        · omega
      rw [this]; rfl
end Go.Mach

set_option maxRecDepth 100000
namespace Go.Proofs.Ytbkkoleoejdflaa
open Go.Mach Go.ChangeShapes Go.WideShapes Go.ChangeAt Go.RowKit

theorem bulk_part {H : Type} {d : DataW H} {l : List (DataW H)} (h : d ∈ l) : Rows.uptoBulk d ≤ Rows.uptoBulkAll l := by
  induction l with
  | nil => cases h
  | cons x r ih =>
    simp only [Rows.uptoBulkAll]
    cases List.mem_cons.1 h with
    | inl e => subst e; omega
    | inr e => have := ih e; omega
theorem bulk_one {H : Type} (d : DataW H) : 1 ≤ Rows.uptoBulk d := by
  cases d with
  | lit l => cases l <;> simp [Rows.uptoBulk]
  | _ => simp [Rows.uptoBulk]
theorem bulk_len {H : Type} (l : List (DataW H)) : l.length ≤ Rows.uptoBulkAll l := by
  induction l with
  | nil => simp [Rows.uptoBulkAll]
  | cons x r ih => have := bulk_one x; simp only [Rows.uptoBulkAll, List.length_cons]; omega
theorem sm_of {H : Type} : Sm (H := H) 1048576 fun d => Rows.uptoBulk d ≤ 1048576 where
  str b h := by simp only [Rows.uptoBulk] at h; omega
  sl es sp h := by
    simp only [Rows.uptoBulk] at h
    have h1 := bulk_len es
    exact ⟨by omega, fun d hd => by have := bulk_part hd; omega⟩
  agg l h := by
    simp only [Rows.uptoBulk] at h
    exact fun d hd => by have := bulk_part hd; omega
theorem sm_all {H : Type} {ds : List (DataW H)} {gs : List (DataW H)} (h : Rows.uptoSmall H (ds ++ gs) = true) : ∀ d ∈ ds, Rows.uptoBulk d ≤ 1048576 := fun d hd => by
  have h := of_decide_eq_true h
  have := bulk_part (List.mem_append_left gs hd)
  omega

theorem own_knob : ownKnob Try.prog.godebug = none := by kernel_rfl
theorem bool_type : Try.prog.underlying 4 = some .bool := by kernel_rfl
end Go.Proofs.Ytbkkoleoejdflaa
