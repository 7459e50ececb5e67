/-
  Proved here: the law renlaw12.EvalThrows returns true for every input of the stated bulk and leaves its arguments as they were; no further condition.
  By an AI agent; no person has read it.
-/
import Derived.Test.YtimhplnifencnaaGreatDoorPartk
import Derived.KernelRfl
import GoSem.ClaimGoes
set_option linter.all false
set_option linter.deprecated false
set_option maxRecDepth 1000000
namespace Go.Mach
theorem rW : R.b8.strip = some true := by kernel_rfl
theorem nf : R.b8.sat (· = true) := by
  have h := rW
  generalize R.b8 = m at h
  exact Res.fB h rfl
end Go.Mach
set_option maxRecDepth 100000
namespace Go.Mach
open Res
theorem dd {α : Type} {m : Res α} {a : α} (h : m.strip = some a) : m.sat (· = a) := Res.fB h rfl
abbrev vU := aB.den
abbrev TreeT := List vU
theorem tN {t : TreeT} {e0 : vU} (hl : t.length ≤ 4096) (h0 : t[0]? = some e0) (hk0 : e0.1 = 1) (ho : (R.fJ t).sat (· = true)) (h1 : ∀ (n : Nat) (e : vU), 0 < n → t[n]? = some e → e.1 ≠ 1) (hf : ∀ (n : Nat) (e : vU), t[n]? = some e → (R.dH e).sat (· = true))
    (hk : ∀ n : Nat, n < t.length → (R.fe t n).sat (· = true)) (hd : (R.ej t).sat fun d => (R.cI d).sat fun m => m ≤ 48) : (R.eH t).sat (· = true) := by
  unfold R.eH
  have hpos : 0 < t.length := (List.getElem?_eq_some_iff.1 h0).1
  refine aK fun _ => aO (a := false) ?_ (aq rfl ?_)
  · refine aq (by rw [beq_eq_false_iff_ne]; omega) (aq (by rw [jU]; omega) (gp (by omega) (by simpa using hpos) fun e he _ => ?_))
    have he : t[0]? = some e := he
    rw [h0] at he; cases he
    exact aq (by simp [hk0]) (aO ho (aI rfl))
  refine aO (a := .inl ()) ?_ (vI (bE hd fun d hd => aK fun _ => bE hd fun m hm => aK fun _ => aI (by rw [kI]; exact hm)))
  refine sF (fun i : Int => i) t.length (by omega) (fun i : Int => 0 ≤ i ∧ i ≤ t.length) ⟨by omega, by omega⟩ (fun i h => h) ?_
  rintro i ⟨i0, i1⟩
  refine fW (fun h => ?_) fun _ => aI rfl
  rw [jO] at h
  have hi : i.toNat < t.length := by omega
  have hin : ((i.toNat : Nat) : Int) = i := by omega
  have w : IntKind.wrap .i64 (i + 1) = i + 1 := wrap64 ⟨by omega, by omega⟩
  refine aO (a := false) (fW (fun hp => ?_) fun hp => ?_) (aq rfl (aI ⟨w, by rw [w]; omega, by rw [w]; omega⟩))
  · rw [jO] at hp
    refine gp i0 hi fun e he _ => ?_
    refine aq (by simpa using h1 _ e (by omega) he) (gp i0 hi fun e' he' _ => aO (hf _ _ he') (aq rfl (aO (a := true) ?_ (aI rfl))))
    have := hk _ hi
    rwa [hin] at this
  · refine gp i0 hi fun e' he' _ => aO (hf _ _ he') (aq rfl (aO (a := true) ?_ (aI rfl)))
    have := hk _ hi
    rwa [hin] at this
theorem qV {t : TreeT} (hl : t.length ≤ 4096) (hm : (R.eH t).sat (· = true)) {up : List Int} (hp : (R.dL t).sat (· = up)) (hw : ∀ n : Nat, n < t.length → (R.ei t up n).sat (· = false)) : (R.cO t).sat (· = (0, 0)) := by
  unfold R.cO
  refine aK fun _ => aO hm (aq rfl (aO hp (aK fun _ => aO (a := .inl ()) ?_ (vI (aI rfl)))))
  refine sF (fun i : Int => i) t.length (by omega) (fun i : Int => 0 ≤ i ∧ i ≤ t.length) ⟨by omega, by omega⟩ (fun i h => h) ?_
  rintro i ⟨i0, i1⟩
  refine fW (fun h => ?_) fun _ => aI rfl
  rw [jO] at h
  have hi : i.toNat < t.length := by omega
  have hin : ((i.toNat : Nat) : Int) = i := by omega
  have w : IntKind.wrap .i64 (i + 1) = i + 1 := wrap64 ⟨by omega, by omega⟩
  have := hw _ hi
  rw [hin] at this
  exact aO this (aq rfl (aI ⟨w, by rw [w]; omega, by rw [w]; omega⟩))
end Go.Mach
set_option maxRecDepth 1000000
namespace Go.Mach
open Res
abbrev jB := aA.den
abbrev iu := aB.den
theorem sD : ∃ k, fuel = k + 40 := ⟨2 ^ 70 - 40, by decide⟩
theorem yN {α β : Type} {Q : β → Prop} {m m' : Res α} {a : α} {k : α → Res β} (h : m = m') (h2 : m'.sat (· = a)) (hk : (k a).sat Q) : (m.bind k).sat Q := h ▸ aO h2 hk
theorem vO {α β : Type} {Q : β → Prop} {m : Res α} {P : α → Prop} {k : α → Res β} (h : m.sat P) (hk : ∀ u, m.strip = some u → P u → (k u).sat Q) : (m.bind k).sat Q := by
  by_cases hf : m.facts
  · obtain ⟨u, h1, h2⟩ := ov h hf
    exact aO (fB h1 rfl) (hk u h1 h2)
  · exact cH (jZ hf)
abbrev vz : jB := (0, ((0, 0), ((false, []), ([], 0))))
abbrev vnum (n : Int) : jB := (3, ((0, n), ((false, []), ([], 0))))
abbrev vbig (m : List Int) : jB := (4, ((0, 0), ((false, m), ([], 0))))
abbrev vstr (s : List Int) : jB := (5, ((0, 0), ((false, []), (s, 0))))
inductive pQ : jB → Prop
  | und : pQ vz
  | null : pQ (1, vz.2)
  | wx (b : Int) : b = 0 ∨ b = 1 → pQ (2, ((0, 0), ((false, []), ([], b))))
  | num (n : Int × Int) : (n.1 = 0 → -9007199254740991 ≤ n.2 ∧ n.2 ≤ 9007199254740991) → pQ (3, (n, vz.2.2))
  | big (b : Bool × List Int) : (R.fD b).strip = some true → pQ (4, ((0, 0), (b, ([], 0))))
  | str (s : List Int) : s.length ≤ 4096 → pQ (vstr s)
  | obj (r : Int) : 0 ≤ r → pQ (6, ((0, 0), ((false, []), ([], r))))
theorem jE {a : jB} : (R.eY a).sat (fun r => r = true → a = (a.1, vz.2)) := by
  obtain ⟨k, ⟨n1, n2⟩, ⟨ng, mg⟩, s, ref⟩ := a
  unfold R.eY
  refine aK fun _ => fW (fun h1 => jn (fW (fun _ => aI fun h => by cases h) fun h2 => jb (fun h3 => jb (fun h4 => aI fun h5 => ?_) fun _ => aI fun h => by cases h) fun _ => aI fun h => by cases h)) fun _ => aI fun h => by cases h
  simp only [Bool.and_true, Bool.and_eq_true, beq_iff_eq] at h1 h2 h5
  have e3 : mg = [] := List.length_eq_zero_iff.1 (by simpa using h3)
  have e4 : s = [] := List.length_eq_zero_iff.1 (by simpa using h4)
  obtain ⟨rfl, rfl⟩ := h1
  subst h2 e3 e4 h5
  rfl
theorem vn {a : Int × Int} : (R.fg a).sat (fun r => r = true → a.1 = 0 → -9007199254740991 ≤ a.2 ∧ a.2 ≤ 9007199254740991) := by
  unfold R.fg
  refine aK fun _ => jb (fun h => qg (fun h1 => aI fun h2 _ => ⟨h1, of_decide_eq_true h2⟩) fun _ => aI fun h => by cases h) fun h => ?_
  refine bE (R := fun _ => True) (by repeat' (first | with_reducible (first | refine aI ?_ | refine aK fun _ => ?_ | refine jn ?_ | refine qw (fun _ => ?_) fun _ => ?_ | refine qg (fun _ => ?_) fun _ => ?_ | refine jb (fun _ => ?_) fun _ => ?_ | refine bl rfl ?_ | refine aq rfl ?_ | refine fW (fun _ => ?_) fun _ => ?_ | refine wP ?_ | refine wZ ?_ | refine rX ?_ | refine q_e ?_ | refine q_p fun _ _ => ?_ | refine q_b fun _ => ?_ | refine gp ?_ ?_ fun _ _ _ => ?_ | refine jN ?_ ?_ fun _ _ _ => ?_ | refine mG ?_| refine nt ?_ ?_ | refine sU ?_ ?_ | refine wa ?_ ?_ | refine n_d ?_ ?_ | refine re (fun _ => ?_) fun _ => ?_ | exact safe | refine cH ?_) | exact trivial | dsimp only [Nx, Dn] | with_reducible (first | rfl | refine And.intro ?_ ?_ | intro _ | contradiction) | omega | refine gi (by decide) ?_ | (simp (disch := omega) only [wrap64, iW, i6, List.length_append, List.length_cons, List.length_nil, List.length_take, List.length_drop, List.length_set, List.length_replicate, List.length_reverse] <;> omega) | (simp (disch := omega) only [wrap64, iW, i6, List.length_append, List.length_cons, List.length_nil, List.length_take, List.length_drop, List.length_set, List.length_replicate, List.length_reverse] at * <;> omega) | exact Int.tmod_nonneg _ (by omega) | (simp_all [jO, kI, jU, j8] <;> omega))) fun _ _ => fW (fun _ => aI fun _ h0 => absurd h0 h) fun _ => aI fun _ h0 => absurd h0 h
theorem uT {a : jB} : (R.er a).sat (fun r => r = true → pQ a) := by
  obtain ⟨k, n, b, s, ref⟩ := a
  unfold R.er
  refine aK fun _ => bE (R := fun c => c = true → k = 0 ∨ k = 1) (jb (fun h => aI fun _ => .inl h) fun _ => aI fun h => .inr (eq_of_beq h)) fun c hc => fW (fun h => ?_) fun _ => ?_
  · refine bE jE fun r hr => aI fun h2 => ?_
    have e : (k, n, b, s, ref) = (k, vz.2) := hr h2
    cases e
    rcases hc h with rfl | rfl
    · exact .und
    · exact .null
  refine jb (fun h => ?_) fun _ => jb (fun h => ?_) fun _ => jb (fun h => ?_) fun _ => jb (fun h => ?_) fun _ => jb (fun h => ?_) fun _ => aI fun h => by cases h
  · refine bE jE fun r hr => fW (fun h1 => ?_) fun _ => aI fun h => by cases h
    have e : (k, n, b, s, (0 : Int)) = (k, vz.2) := hr h1
    cases e
    subst h
    exact jb (fun h => aI fun _ => .wx _ (.inl h)) fun _ => aI fun h => .wx _ (.inr (eq_of_beq h))
  · refine bE jE fun r hr => fW (fun h1 => ?_) fun _ => aI fun h => by cases h
    have e : (k, ((0 : Int), (0 : Int)), b, s, ref) = (k, vz.2) := hr h1
    cases e
    subst h
    exact bE vn fun r hr => aI fun h2 => .num n (hr h2)
  · refine bE jE fun r hr => fW (fun h1 => ?_) fun _ => aI fun h => by cases h
    have e : (k, n, ((false, []) : Bool × List Int), s, ref) = (k, vz.2) := hr h1
    cases e
    subst h
    exact vO (P := fun _ => True) safe fun c hc _ => aI fun h2 => .big b (by rw [hc, h2])
  · refine bE jE fun r hr => fW (fun h1 => ?_) fun _ => aI fun h => by cases h
    have e : (k, n, b, ([] : List Int), ref) = (k, vz.2) := hr h1
    cases e
    subst h
    exact aI fun h2 => .str s (by have h3 : (List.length s : Int) ≤ 4096 := of_decide_eq_true h2; omega)
  · refine bE jE fun r hr => fW (fun h1 => ?_) fun _ => aI fun h => by cases h
    have e : (k, n, b, s, (0 : Int)) = (k, vz.2) := hr h1
    cases e
    subst h
    exact aI fun h2 => .obj ref (of_decide_eq_true h2)
inductive kQ : iu → jB → Prop
  | null : kQ (36, ([], ([], ((0, 0), ((false, []), []))))) (1, vz.2)
  | tru : kQ (34, ([], ([], ((0, 0), ((false, []), []))))) (2, ((0, 0), ((false, []), ([], 1))))
  | fls : kQ (35, ([], ([], ((0, 0), ((false, []), []))))) (2, ((0, 0), ((false, []), ([], 0))))
  | num (n : Int) : 0 ≤ n → n ≤ 9007199254740991 → kQ (30, ([], ([], ((0, n), ((false, []), []))))) (vnum n)
  | big (m : List Int) : (R.fD (false, m)).strip = some true → kQ (31, ([], ([], ((0, 0), ((false, m), []))))) (vbig m)
  | str (s : List Int) : s.length ≤ 4096 → kQ (32, ([], (s, ((0, 0), ((false, []), []))))) (vstr s)
theorem tB {b : List Int} (h : b.length ≤ 4096) : (R.cR b).sat (· = vstr b) := by
  unfold R.cR
  refine aK fun _ => ?_
  rw [iW, show min (List.length b : Int) 4096 = List.length b by omega]
  refine mG (nt (by omega) (nt (by omega) (cH (aI (aK fun _ => aI ?_)))))
  rw [Int.toNat_natCast, List.drop_zero, List.take_length]
theorem yI {x : iu} {a : jB} (h : kQ x a) (G : aw) (r : aH.den) (i : Int) (e : aQ.den) (h0 : decide (0 ≤ i) = true) (hx : r.1[i.toNat]? = some x) : (R.eval_run_value G r i e).sat (· = ((a, 0), r)) := by
  unfold R.eval_run_value
  have hi : i.toNat < List.length r.1 := (List.getElem?_eq_some_iff.1 hx).1
  refine aK fun _ => jN (of_decide_eq_true h0) hi fun y hy _ => ?_
  rw [hx] at hy
  cases hy
  cases h with
  | null => exact dd (by kernel_rfl)
  | tru => exact dd (by kernel_rfl)
  | fls => exact dd (by kernel_rfl)
  | num n h0 h1 => exact dd (by kernel_rfl)
  | big m hm => exact dd (by kernel_rfl)
  | str s hs => exact aq rfl (aq rfl (bl rfl (aO (tB hs) (aK fun _ => aI rfl))))
theorem nL {x : iu} {a : jB} (h : kQ x a) : (R.dH x).sat (· = true) := by
  cases h with
  | null => exact dd (by kernel_rfl)
  | tru => exact dd (by kernel_rfl)
  | fls => exact dd (by kernel_rfl)
  | num n h0 h1 =>
    unfold R.dH
    refine aK fun _ => aO (a := false) (dd (by kernel_rfl)) (aq rfl (aO (a := false) (dd (by kernel_rfl)) (aq rfl (bl rfl (bl rfl (bl rfl (aO (a := true) ?_ (bl rfl (aI (decide_eq_true h0))))))))))
    unfold R.fg
    exact aK fun _ => bl rfl (bl (decide_eq_true (by show (-9007199254740991 : Int) ≤ n; omega)) (aI (decide_eq_true h1)))
  | big m hm =>
    unfold R.dH
    exact aK fun _ => aO (a := false) (dd (by kernel_rfl)) (aq rfl (aO (a := false) (dd (by kernel_rfl)) (aq rfl (aq rfl (bl rfl (bl rfl (aO (fB hm rfl) (bl rfl (aI rfl)))))))))
  | str s hs =>
    unfold R.dH
    exact aK fun _ => aO (a := false) (dd (by kernel_rfl)) (aq rfl (aO (a := true) (dd (by kernel_rfl)) (bl rfl (bl rfl (aI (decide_eq_true (by show (List.length s : Int) ≤ 4096; omega)))))))
theorem rR {x : iu} {a : jB} (h : kQ x a) : (R.er a).sat (· = true) := by
  cases h with
  | null => exact dd (by kernel_rfl)
  | tru => exact dd (by kernel_rfl)
  | fls => exact dd (by kernel_rfl)
  | num n h0 h1 =>
    unfold R.er
    refine aK fun _ => aO (a := false) (dd (by kernel_rfl)) (aq rfl (aq rfl (bl rfl (aO (a := true) (dd (by kernel_rfl)) (bl rfl (aO (a := true) ?_ (aI rfl)))))))
    unfold R.fg
    exact aK fun _ => bl rfl (bl (decide_eq_true (by show (-9007199254740991 : Int) ≤ n; omega)) (aI (decide_eq_true h1)))
  | big m hm =>
    unfold R.er
    exact aK fun _ => aO (a := false) (dd (by kernel_rfl)) (aq rfl (aq rfl (aq rfl (bl rfl (aO (a := true) (dd (by kernel_rfl)) (bl rfl (aO (fB hm rfl) (aI rfl))))))))
  | str s hs =>
    unfold R.er
    exact aK fun _ => aO (a := false) (dd (by kernel_rfl)) (aq rfl (aq rfl (aq rfl (aq rfl (bl rfl (aO (a := true) (dd (by kernel_rfl)) (bl rfl (aI (decide_eq_true (by show (List.length s : Int) ≤ 4096; omega))))))))))
theorem xC {x : iu} {a : jB} (h : kQ x a) : (R.bZ a).sat (fun r => r.1.length ≤ 2 ^ 40 ∧ r.2 = 0) := by
  unfold R.bZ
  have hc : (R.bc a).sat (· = a) := by
    unfold R.bc
    exact aK fun _ => aO (rR h) (aq rfl (aI rfl))
  refine aK fun _ => aO hc (aK fun _ => ?_)
  cases h with
  | null => exact aq rfl (bl rfl (bE (fE (by decide)) fun r hr => aK fun _ => aI ⟨by rw [hr]; decide, rfl⟩))
  | tru => exact aq rfl (aq rfl (bl rfl (bl rfl (bE (fE (by decide)) fun r hr => aK fun _ => aI ⟨by rw [hr]; decide, rfl⟩))))
  | fls => exact aq rfl (aq rfl (bl rfl (aq rfl (bE (fE (by decide)) fun r hr => aK fun _ => aI ⟨by rw [hr]; decide, rfl⟩))))
  | num n h0 h1 => exact aq rfl (aq rfl (aq rfl (bl rfl (q_p fun t ht => aK fun _ => bE (fE ht) fun r hr => aK fun _ => aI ⟨by rw [hr]; exact ht, rfl⟩))))
  | big m hm => exact aq rfl (aq rfl (aq rfl (aq rfl (bl rfl (q_p fun t ht => aK fun _ => bE (fE ht) fun r hr => aK fun _ => aI ⟨by rw [hr]; exact ht, rfl⟩)))))
  | str s hs => exact aq rfl (aq rfl (aq rfl (aq rfl (aq rfl (bl rfl (aO (a := s) rfl (aK fun _ => aI ⟨Nat.le_trans hs (by decide), rfl⟩)))))))
theorem nI {a : List Int} : (R.cS a a).sat (· = true) := by
  unfold R.cS
  refine aK fun h => ?_
  simp only [Sg.i, oks, Sh.ok, Ty.ok, List.map, Par.v, Bool.and_eq_true] at h
  have := si h.1
  refine jn (jb (fun _ => ?_) fun h => absurd rfl h)
  refine bE (q_for (Q := fun x : Unit ⊕ Bool => x = .inl ()) (fun i => i) a.length (by omega) (fun _ => True) (by omega) (by omega) trivial fun i h0 h1 _ => qw (fun hi => gp h0 (by omega) fun e he _ => gp h0 (by omega) fun e' he' _ => ?_) fun _ => aI rfl) fun x hx => ?_
  · rw [he] at he'; cases he'
    exact jn (bl (by simp) (aI ⟨rfl, hi, trivial⟩))
  · subst hx
    exact aI rfl
end Go.Mach
set_option maxRecDepth 1000000
namespace Go.Mach
open Res
noncomputable def goodB (t : List iu) : Bool :=
  decide (t.length ≤ 4096) && ((R.fJ t).strip == some true && ((List.range t.length).all (fun n => (R.fe t n).strip == some true) && match ((R.ej t).bind R.cI).strip with
    | some m => ile m 48
    | none => false))
theorem oo {e0 : iu} {rest : List iu} (hb : goodB (e0 :: rest) = true) (hk0 : e0.1 = 1) (h1 : ∀ e ∈ rest, e.1 ≠ 1) (hf : ∀ e ∈ e0 :: rest, (R.dH e).sat (· = true)) : (R.eH (e0 :: rest)).sat (· = true) := by
  simp only [goodB, Bool.and_eq_true, decide_eq_true_eq, beq_iff_eq, List.all_eq_true, List.mem_range] at hb
  obtain ⟨b1, b2, b3, b4⟩ := hb
  refine tN (e0 := e0) b1 rfl hk0 (fB b2 rfl) (fun n e hn he => ?_) (fun n e he => hf e (List.mem_of_getElem? he)) (fun n hn => fB (b3 n hn) rfl) ?_
  · obtain ⟨m, rfl⟩ : ∃ m, n = m + 1 := ⟨n - 1, by omega⟩
    exact h1 e (List.mem_of_getElem? (by simpa using he))
  · rw [← sZ]
    split at b4
    · rename_i m hm
      exact fB hm (of_decide_eq_true b4)
    · cases b4
noncomputable def lateB (t : List iu) : Bool := match (R.dL t).strip with
  | some up => (List.range t.length).all fun n => (R.ei t up n).strip == some false
  | none => false
theorem mu {t : List iu} (hl : t.length ≤ 4096) (hm : (R.eH t).sat (· = true)) (hb : lateB t = true) : (R.cO t).sat (· = (0, 0)) := by
  unfold lateB at hb
  split at hb
  · rename_i up hup
    simp only [List.all_eq_true, List.mem_range, beq_iff_eq] at hb
    exact qV hl hm (fB hup rfl) fun n hn => fB (hb n hn) rfl
  · cases hb
abbrev nd (k : Int) (name : List UInt8) (kids : List Int) : iu := (k, (name, ([], ((0, 0), ((false, []), kids)))))
abbrev run0 (t : List iu) : aH.den := (t, ((20, (20, 50)), ([], (0, ((20, []), (0, (0, ((0, (0, (0, (0, (0, (false, (false, (0, (0, ((0, 0), ([], 0))))))))))), (0, [])))))))))
abbrev req0 : cu.den := (0, (0, (0, (0, (0, (false, (false, (0, (0, ((0, 0), ([], 0)))))))))))
theorem oh {t : List iu} {Q : cu.den × ee.den → Prop} (hc : (R.cO t).sat (· = (0, 0))) (hr : (R.dO t (20, (20, 50)) []).sat Q) : (R.dk t (20, (20, 50)) []).sat Q := by
  unfold R.dk
  exact aK fun _ => aO hc (aK fun _ => aO (a := false) (dd (by kernel_rfl)) (aq rfl (bE hr fun x hx => aK fun _ => aI hx)))
theorem ml {t : List iu} {v : jB} {u : List Int × Int} (hk : v.1 ≠ 6) (hu : (R.bZ v).strip = some u) (hp : (R.bL (run0 t)).sat fun x => x.1 = (4, ([], v))) : (R.dO t (20, (20, 50)) []).sat (· = (req0, (2, u.1))) := by
  unfold R.dO
  refine aK fun _ => aO (a := (20, [])) (dd (by kernel_rfl)) (aK fun _ => bE hp fun ⟨o, r⟩ hx => aK fun _ => ?_)
  have hx : o = (4, ([], v)) := hx
  subst hx
  refine aq rfl (bl rfl ?_)
  refine aO (a := u.1) ?_ (aK fun _ => aI rfl)
  unfold R.cp
  exact aK fun _ => jn (jb (fun h => absurd h hk) fun _ => aO (fB hu rfl) (aK fun _ => aI rfl))
theorem s5 {t : List iu} {q : cu.den} {e : ee.den} (hp : (R.bL (run0 t)).sat fun x => x.1.1 = 5 ∧ x.2.2.2.2.2.2.2.2 = (q, e)) : (R.dO t (20, (20, 50)) []).sat (· = (q, e)) := by
  unfold R.dO
  refine aK fun _ => aO (a := (20, [])) (dd (by kernel_rfl)) (aK fun _ => bE hp fun ⟨o, r⟩ hx => aK fun _ => ?_)
  obtain ⟨h1, h2⟩ := hx
  have h1 : o.1 = 5 := h1
  exact bl (by rw [show (o, r).1.1 = 5 from h1]; rfl) (aI h2)
theorem wu {x : iu} {a : jB} (h : kQ x a) {n : Nat} {r : aH.den} {i : Int} {e : aQ.den} {β : Type} {Q : β → Prop} {k : (jB × Int) × aH.den → Res β} (h0 : decide (0 ≤ i) = true) (hx : r.1[i.toNat]? = some x) (hk : (k ((a, 0), r)).sat Q) : (((bI (n + 1)).eval_run_value r i e).bind k).sat Q := aO (yI h (bI n) r i e h0 hx) hk
end Go.Mach
set_option maxRecDepth 1000000
namespace Go.Mach
open Res
abbrev th1 (x : iu) : List iu := [nd 1 [] [1], nd 15 [] [2], x]
abbrev th2 (x : iu) : List iu := [nd 1 [] [1], nd 16 [] [2, 5, 6], nd 4 [] [3], nd 15 [] [4], x, nd 11 [] [], nd 4 [] []]
abbrev th3 (x : iu) : List iu := [nd 1 [] [1], nd 16 [] [2, 5, 13], nd 4 [] [3], nd 15 [] [4], x, nd 17 [118] [6], nd 4 [] [7], nd 3 [] [8], nd 50 [] [9, 12], nd 52 [114, 101, 112, 111, 114, 116] [10], nd 52 [97, 103, 101, 110, 116] [11], nd 33 [36, 50, 54, 50] [], nd 33 [118] [], nd 11 [] []]
theorem u7 {x : iu} {a : jB} (h : kQ x a) : (R.eH (th1 x)).sat (· = true) := by
  refine oo (by cases h <;> kernel_rfl) rfl (fun e he => ?_) fun e he => ?_ <;> simp only [List.mem_cons, List.not_mem_nil, or_false] at he
  · rcases he with rfl | rfl <;> first | (cases h <;> simp) | simp
  · rcases he with rfl | rfl | rfl <;> first | exact nL h | exact dd (by kernel_rfl)
theorem wW {x : iu} {a : jB} (h : kQ x a) : (R.cO (th1 x)).sat (· = (0, 0)) := mu (by simp) (u7 h) (by cases h <;> kernel_rfl)
theorem yH {x : iu} {a : jB} (h : kQ x a) : (R.bL (run0 (th1 x))).sat (fun x => x.1 = (4, ([], a))) := by
  unfold R.bL
  obtain ⟨k, hk⟩ := sD
  rw [hk]
  with_reducible refine aN ?_
  with_reducible refine cV (by kernel_rfl) ?_
  with_reducible refine aN ?_
  with_reducible refine aq (by kernel_rfl) ?_
  with_reducible refine cV (by kernel_rfl) ?_
  with_reducible refine aN ?_
  with_reducible refine aq (by kernel_rfl) ?_
  with_reducible refine gD (by kernel_rfl) (by kernel_rfl) ?_
  with_reducible refine gW ?_; delta R.eval_run_list
  with_reducible refine aN ?_
  with_reducible refine cH ?_
  with_reducible refine oT hk ?_
  with_reducible refine bl (by kernel_rfl) ?_
  with_reducible refine gD (by kernel_rfl) (by kernel_rfl) ?_
  with_reducible refine dI ?_; delta R.eval_run_statement
  with_reducible refine aN ?_
  with_reducible refine cV (by kernel_rfl) ?_
  with_reducible refine aN ?_
  with_reducible refine aq (by kernel_rfl) ?_
  with_reducible refine fF ?_; delta R.eval_run_act
  with_reducible refine aN ?_
  with_reducible refine gD (by kernel_rfl) (by kernel_rfl) ?_
  iterate 2 (with_reducible refine aq (by kernel_rfl) ?_)
  with_reducible refine cV (by kernel_rfl) ?_
  iterate 7 (with_reducible refine aq (by kernel_rfl) ?_)
  with_reducible refine bl (by kernel_rfl) ?_
  with_reducible refine gD (by kernel_rfl) (by kernel_rfl) ?_
  with_reducible refine gP ?_; delta R.eval_run_expression
  with_reducible refine aN ?_
  with_reducible refine cV (by kernel_rfl) ?_
  with_reducible refine aN ?_
  with_reducible refine aq (by kernel_rfl) ?_
  with_reducible refine wu h (by kernel_rfl) (by kernel_rfl) ?_
  with_reducible refine aN ?_
  with_reducible refine aI ?_
  with_reducible refine aN ?_
  with_reducible refine cV (by kernel_rfl) ?_
  with_reducible refine aN ?_
  with_reducible refine aI ?_
  with_reducible refine aN ?_
  with_reducible refine aI ?_
  with_reducible refine aN ?_
  with_reducible refine bl (by kernel_rfl) ?_
  with_reducible refine aI ?_
  with_reducible refine om ?_
  with_reducible refine rj (by kernel_rfl) ?_
  with_reducible refine aI ?_
  with_reducible refine aN ?_
  with_reducible refine aI ?_
  kernel_rfl
theorem vM {x : iu} {a : jB} (h : kQ x a) : (R.eH (th2 x)).sat (· = true) := by
  refine oo (by cases h <;> kernel_rfl) rfl (fun e he => ?_) fun e he => ?_ <;> simp only [List.mem_cons, List.not_mem_nil, or_false] at he
  · rcases he with rfl | rfl | rfl | rfl | rfl | rfl <;> first | (cases h <;> simp) | simp
  · rcases he with rfl | rfl | rfl | rfl | rfl | rfl | rfl <;> first | exact nL h | exact dd (by kernel_rfl)
theorem wG {x : iu} {a : jB} (h : kQ x a) : (R.cO (th2 x)).sat (· = (0, 0)) := mu (by simp) (vM h) (by cases h <;> kernel_rfl)
theorem yM {x : iu} {a : jB} (h : kQ x a) : (R.bL (run0 (th2 x))).sat (fun x => x.1 = (4, ([], a))) := by
  unfold R.bL
  obtain ⟨k, hk⟩ := sD
  rw [hk]
  with_reducible refine aN ?_
  with_reducible refine cV (by kernel_rfl) ?_
  with_reducible refine aN ?_
  with_reducible refine aq (by kernel_rfl) ?_
  with_reducible refine cV (by kernel_rfl) ?_
  with_reducible refine aN ?_
  with_reducible refine aq (by kernel_rfl) ?_
  with_reducible refine gD (by kernel_rfl) (by kernel_rfl) ?_
  with_reducible refine gW ?_; delta R.eval_run_list
  with_reducible refine aN ?_
  with_reducible refine cH ?_
  with_reducible refine oT hk ?_
  with_reducible refine bl (by kernel_rfl) ?_
  with_reducible refine gD (by kernel_rfl) (by kernel_rfl) ?_
  with_reducible refine dI ?_; delta R.eval_run_statement
  with_reducible refine aN ?_
  with_reducible refine cV (by kernel_rfl) ?_
  with_reducible refine aN ?_
  with_reducible refine aq (by kernel_rfl) ?_
  with_reducible refine fF ?_; delta R.eval_run_act
  with_reducible refine aN ?_
  with_reducible refine gD (by kernel_rfl) (by kernel_rfl) ?_
  iterate 2 (with_reducible refine aq (by kernel_rfl) ?_)
  with_reducible refine cV (by kernel_rfl) ?_
  iterate 8 (with_reducible refine aq (by kernel_rfl) ?_)
  with_reducible refine bl (by kernel_rfl) ?_
  with_reducible refine lb ?_; delta R.eval_run_try
  with_reducible refine aN ?_
  with_reducible refine gD (by kernel_rfl) (by kernel_rfl) ?_
  with_reducible refine dI ?_; delta R.eval_run_statement
  with_reducible refine aN ?_
  with_reducible refine cV (by kernel_rfl) ?_
  with_reducible refine aN ?_
  with_reducible refine aq (by kernel_rfl) ?_
  with_reducible refine fF ?_; delta R.eval_run_act
  with_reducible refine aN ?_
  with_reducible refine gD (by kernel_rfl) (by kernel_rfl) ?_
  with_reducible refine aq (by kernel_rfl) ?_
  with_reducible refine bl (by kernel_rfl) ?_
  with_reducible refine jc ?_; delta R.eval_run_block
  with_reducible refine aN ?_
  with_reducible refine cV (by kernel_rfl) ?_
  with_reducible refine vS (by kernel_rfl) ?_
  with_reducible refine gD (by kernel_rfl) (by kernel_rfl) ?_
  with_reducible refine gW ?_; delta R.eval_run_list
  with_reducible refine aN ?_
  with_reducible refine cH ?_
  with_reducible refine oT hk ?_
  with_reducible refine bl (by kernel_rfl) ?_
  with_reducible refine gD (by kernel_rfl) (by kernel_rfl) ?_
  with_reducible refine dI ?_; delta R.eval_run_statement
  with_reducible refine aN ?_
  with_reducible refine cV (by kernel_rfl) ?_
  with_reducible refine aN ?_
  with_reducible refine aq (by kernel_rfl) ?_
  with_reducible refine fF ?_; delta R.eval_run_act
  with_reducible refine aN ?_
  with_reducible refine gD (by kernel_rfl) (by kernel_rfl) ?_
  iterate 2 (with_reducible refine aq (by kernel_rfl) ?_)
  with_reducible refine cV (by kernel_rfl) ?_
  iterate 7 (with_reducible refine aq (by kernel_rfl) ?_)
  with_reducible refine bl (by kernel_rfl) ?_
  with_reducible refine gD (by kernel_rfl) (by kernel_rfl) ?_
  with_reducible refine gP ?_; delta R.eval_run_expression
  with_reducible refine aN ?_
  with_reducible refine cV (by kernel_rfl) ?_
  with_reducible refine aN ?_
  with_reducible refine aq (by kernel_rfl) ?_
  with_reducible refine wu h (by kernel_rfl) (by kernel_rfl) ?_
  with_reducible refine aN ?_
  with_reducible refine aI ?_
  with_reducible refine aN ?_
  with_reducible refine cV (by kernel_rfl) ?_
  with_reducible refine aN ?_
  with_reducible refine aI ?_
  with_reducible refine aN ?_
  with_reducible refine aI ?_
  with_reducible refine aN ?_
  with_reducible refine bl (by kernel_rfl) ?_
  with_reducible refine aI ?_
  with_reducible refine om ?_
  with_reducible refine rj (by kernel_rfl) ?_
  with_reducible refine aI ?_
  with_reducible refine aN ?_
  with_reducible refine aI ?_
  with_reducible refine aN ?_
  with_reducible refine aI ?_
  with_reducible refine aN ?_
  with_reducible refine aI ?_
  with_reducible refine aN ?_
  iterate 2 (with_reducible refine cV (by kernel_rfl) ?_)
  with_reducible refine aq (by kernel_rfl) ?_
  with_reducible refine gD (by kernel_rfl) (by kernel_rfl) ?_
  with_reducible refine cV (by kernel_rfl) ?_
  with_reducible refine aN ?_
  with_reducible refine aq (by kernel_rfl) ?_
  with_reducible refine aI ?_
  with_reducible refine aN ?_
  with_reducible refine aI ?_
  with_reducible refine aN ?_
  with_reducible refine aI ?_
  with_reducible refine aN ?_
  with_reducible refine bl (by kernel_rfl) ?_
  with_reducible refine aI ?_
  with_reducible refine om ?_
  with_reducible refine rj (by kernel_rfl) ?_
  with_reducible refine aI ?_
  with_reducible refine aN ?_
  with_reducible refine aI ?_
  kernel_rfl
theorem vG {x : iu} {a : jB} (h : kQ x a) : (R.eH (th3 x)).sat (· = true) := by
  refine oo (by cases h <;> kernel_rfl) rfl (fun e he => ?_) fun e he => ?_ <;> simp only [List.mem_cons, List.not_mem_nil, or_false] at he
  · rcases he with rfl | rfl | rfl | rfl | rfl | rfl | rfl | rfl | rfl | rfl | rfl | rfl | rfl <;> first | (cases h <;> simp) | simp
  · rcases he with rfl | rfl | rfl | rfl | rfl | rfl | rfl | rfl | rfl | rfl | rfl | rfl | rfl | rfl <;> first | exact nL h | exact dd (by kernel_rfl)
theorem vX {x : iu} {a : jB} (h : kQ x a) : (R.cO (th3 x)).sat (· = (0, 0)) := mu (by simp) (vG h) (by cases h <;> kernel_rfl)
theorem xn {x : iu} {a : jB} (h : kQ x a) {l : List Int} (hu : (R.bZ a).strip = some (l, 0)) : (R.bL (run0 (th3 x))).sat fun x => x.1.1 = 5 ∧ x.2.2.2.2.2.2.2.2 = ((11, (0, (0, (0, (0, (false, (false, (0, (0, ((0, 0), (l, 0))))))))))), (0, [])) := by
  unfold R.bL
  obtain ⟨k, hk⟩ := sD
  rw [hk]
  with_reducible refine aN ?_
  with_reducible refine cV (by kernel_rfl) ?_
  with_reducible refine aN ?_
  with_reducible refine aq (by kernel_rfl) ?_
  with_reducible refine cV (by kernel_rfl) ?_
  with_reducible refine aN ?_
  with_reducible refine aq (by kernel_rfl) ?_
  with_reducible refine gD (by kernel_rfl) (by kernel_rfl) ?_
  with_reducible refine gW ?_; delta R.eval_run_list
  with_reducible refine aN ?_
  with_reducible refine cH ?_
  with_reducible refine oT hk ?_
  with_reducible refine bl (by kernel_rfl) ?_
  with_reducible refine gD (by kernel_rfl) (by kernel_rfl) ?_
  with_reducible refine dI ?_; delta R.eval_run_statement
  with_reducible refine aN ?_
  with_reducible refine cV (by kernel_rfl) ?_
  with_reducible refine aN ?_
  with_reducible refine aq (by kernel_rfl) ?_
  with_reducible refine fF ?_; delta R.eval_run_act
  with_reducible refine aN ?_
  with_reducible refine gD (by kernel_rfl) (by kernel_rfl) ?_
  iterate 2 (with_reducible refine aq (by kernel_rfl) ?_)
  with_reducible refine cV (by kernel_rfl) ?_
  iterate 8 (with_reducible refine aq (by kernel_rfl) ?_)
  with_reducible refine bl (by kernel_rfl) ?_
  with_reducible refine lb ?_; delta R.eval_run_try
  with_reducible refine aN ?_
  with_reducible refine gD (by kernel_rfl) (by kernel_rfl) ?_
  with_reducible refine dI ?_; delta R.eval_run_statement
  with_reducible refine aN ?_
  with_reducible refine cV (by kernel_rfl) ?_
  with_reducible refine aN ?_
  with_reducible refine aq (by kernel_rfl) ?_
  with_reducible refine fF ?_; delta R.eval_run_act
  with_reducible refine aN ?_
  with_reducible refine gD (by kernel_rfl) (by kernel_rfl) ?_
  with_reducible refine aq (by kernel_rfl) ?_
  with_reducible refine bl (by kernel_rfl) ?_
  with_reducible refine jc ?_; delta R.eval_run_block
  with_reducible refine aN ?_
  with_reducible refine cV (by kernel_rfl) ?_
  with_reducible refine vS (by kernel_rfl) ?_
  with_reducible refine gD (by kernel_rfl) (by kernel_rfl) ?_
  with_reducible refine gW ?_; delta R.eval_run_list
  with_reducible refine aN ?_
  with_reducible refine cH ?_
  with_reducible refine oT hk ?_
  with_reducible refine bl (by kernel_rfl) ?_
  with_reducible refine gD (by kernel_rfl) (by kernel_rfl) ?_
  with_reducible refine dI ?_; delta R.eval_run_statement
  with_reducible refine aN ?_
  with_reducible refine cV (by kernel_rfl) ?_
  with_reducible refine aN ?_
  with_reducible refine aq (by kernel_rfl) ?_
  with_reducible refine fF ?_; delta R.eval_run_act
  with_reducible refine aN ?_
  with_reducible refine gD (by kernel_rfl) (by kernel_rfl) ?_
  iterate 2 (with_reducible refine aq (by kernel_rfl) ?_)
  with_reducible refine cV (by kernel_rfl) ?_
  iterate 7 (with_reducible refine aq (by kernel_rfl) ?_)
  with_reducible refine bl (by kernel_rfl) ?_
  with_reducible refine gD (by kernel_rfl) (by kernel_rfl) ?_
  with_reducible refine gP ?_; delta R.eval_run_expression
  with_reducible refine aN ?_
  with_reducible refine cV (by kernel_rfl) ?_
  with_reducible refine aN ?_
  with_reducible refine aq (by kernel_rfl) ?_
  with_reducible refine wu h (by kernel_rfl) (by kernel_rfl) ?_
  with_reducible refine aN ?_
  with_reducible refine aI ?_
  with_reducible refine aN ?_
  with_reducible refine cV (by kernel_rfl) ?_
  with_reducible refine aN ?_
  with_reducible refine aI ?_
  with_reducible refine aN ?_
  with_reducible refine aI ?_
  with_reducible refine aN ?_
  with_reducible refine bl (by kernel_rfl) ?_
  with_reducible refine aI ?_
  with_reducible refine om ?_
  with_reducible refine rj (by kernel_rfl) ?_
  with_reducible refine aI ?_
  with_reducible refine aN ?_
  with_reducible refine aI ?_
  with_reducible refine aN ?_
  with_reducible refine aI ?_
  with_reducible refine aN ?_
  with_reducible refine aI ?_
  with_reducible refine aN ?_
  with_reducible refine cH ?_
  iterate 2 (with_reducible refine gD (by kernel_rfl) (by kernel_rfl) ?_)
  with_reducible refine cV (by kernel_rfl) ?_
  with_reducible refine bl (by kernel_rfl) ?_
  with_reducible refine gD (by kernel_rfl) (by kernel_rfl) ?_
  with_reducible refine oY ?_; delta R.eval_run_catch
  with_reducible refine aN ?_
  with_reducible refine bl (by kernel_rfl) ?_
  with_reducible refine cV (by kernel_rfl) ?_
  with_reducible refine aN ?_
  with_reducible refine aq (by kernel_rfl) ?_
  with_reducible refine cV (by kernel_rfl) ?_
  with_reducible refine aN ?_
  with_reducible refine dI ?_; delta R.eval_run_statement
  with_reducible refine aN ?_
  with_reducible refine cV (by kernel_rfl) ?_
  with_reducible refine aN ?_
  with_reducible refine aq (by kernel_rfl) ?_
  with_reducible refine fF ?_; delta R.eval_run_act
  with_reducible refine aN ?_
  with_reducible refine gD (by kernel_rfl) (by kernel_rfl) ?_
  with_reducible refine aq (by kernel_rfl) ?_
  with_reducible refine bl (by kernel_rfl) ?_
  with_reducible refine jc ?_; delta R.eval_run_block
  with_reducible refine aN ?_
  with_reducible refine cV (by kernel_rfl) ?_
  with_reducible refine vS (by kernel_rfl) ?_
  with_reducible refine gD (by kernel_rfl) (by kernel_rfl) ?_
  with_reducible refine gW ?_; delta R.eval_run_list
  with_reducible refine aN ?_
  with_reducible refine cH ?_
  with_reducible refine oT hk ?_
  with_reducible refine bl (by kernel_rfl) ?_
  with_reducible refine gD (by kernel_rfl) (by kernel_rfl) ?_
  with_reducible refine dI ?_; delta R.eval_run_statement
  with_reducible refine aN ?_
  with_reducible refine cV (by kernel_rfl) ?_
  with_reducible refine aN ?_
  with_reducible refine aq (by kernel_rfl) ?_
  with_reducible refine fF ?_; delta R.eval_run_act
  with_reducible refine aN ?_
  with_reducible refine gD (by kernel_rfl) (by kernel_rfl) ?_
  with_reducible refine bl (by kernel_rfl) ?_
  with_reducible refine gD (by kernel_rfl) (by kernel_rfl) ?_
  with_reducible refine gP ?_; delta R.eval_run_expression
  with_reducible refine aN ?_
  with_reducible refine cV (by kernel_rfl) ?_
  with_reducible refine aN ?_
  with_reducible refine aq (by kernel_rfl) ?_
  with_reducible refine oM ?_; delta R.eval_run_value
  with_reducible refine aN ?_
  with_reducible refine gD (by kernel_rfl) (by kernel_rfl) ?_
  iterate 4 (with_reducible refine aq (by kernel_rfl) ?_)
  with_reducible refine cV (by kernel_rfl) ?_
  iterate 5 (with_reducible refine aq (by kernel_rfl) ?_)
  with_reducible refine cV (by kernel_rfl) ?_
  with_reducible refine aq (by kernel_rfl) ?_
  with_reducible refine lX ?_; delta R.eval_run_operation
  with_reducible refine aN ?_
  with_reducible refine aq (by kernel_rfl) ?_
  with_reducible refine cV (by kernel_rfl) ?_
  iterate 5 (with_reducible refine aq (by kernel_rfl) ?_)
  with_reducible refine bl (by kernel_rfl) ?_
  with_reducible refine nQ ?_; delta R.eval_run_callee
  with_reducible refine aN ?_
  with_reducible refine gD (by kernel_rfl) (by kernel_rfl) ?_
  with_reducible refine cV (by kernel_rfl) ?_
  with_reducible refine aN ?_
  with_reducible refine aq (by kernel_rfl) ?_
  with_reducible refine gi (by kernel_rfl) ?_
  with_reducible refine cV (by kernel_rfl) ?_
  with_reducible refine aN ?_
  with_reducible refine aq (by kernel_rfl) ?_
  with_reducible refine pT ?_; delta R.eval_run_call
  with_reducible refine aN ?_
  with_reducible refine aq (by kernel_rfl) ?_
  with_reducible refine cV (by kernel_rfl) ?_
  with_reducible refine aN ?_
  with_reducible refine cV (by kernel_rfl) ?_
  with_reducible refine bl (by kernel_rfl) ?_
  with_reducible refine pH ?_; delta R.eval_run_does
  with_reducible refine aN ?_
  with_reducible refine cV (by kernel_rfl) ?_
  with_reducible refine aN ?_
  with_reducible refine cV (by kernel_rfl) ?_
  iterate 10 (with_reducible refine aq (by kernel_rfl) ?_)
  with_reducible refine cV (by kernel_rfl) ?_
  with_reducible refine aq (by kernel_rfl) ?_
  with_reducible refine cV (by kernel_rfl) ?_
  with_reducible refine aq (by kernel_rfl) ?_
  with_reducible refine cV (by kernel_rfl) ?_
  with_reducible refine aq (by kernel_rfl) ?_
  with_reducible refine cV (by kernel_rfl) ?_
  with_reducible refine bl (by kernel_rfl) ?_
  with_reducible refine cV (by kernel_rfl) ?_
  with_reducible refine aN ?_
  with_reducible refine pL ?_; delta R.eval_run_host
  with_reducible refine aN ?_
  with_reducible refine cH ?_
  iterate 3 (with_reducible refine aq (by kernel_rfl) ?_)
  with_reducible refine bl (by kernel_rfl) ?_
  with_reducible refine yN (m' := R.bZ a) (by kernel_rfl) (fB hu rfl) ?_
  with_reducible refine aN ?_
  with_reducible refine aq (by kernel_rfl) ?_
  with_reducible refine aI ?_
  with_reducible refine vS (by kernel_rfl) ?_
  with_reducible refine cV (by kernel_rfl) ?_
  with_reducible refine aN ?_
  with_reducible refine bl (by kernel_rfl) ?_
  with_reducible refine aI ?_
  with_reducible refine aN ?_
  with_reducible refine aI ?_
  with_reducible refine aN ?_
  with_reducible refine aI ?_
  with_reducible refine aN ?_
  with_reducible refine aI ?_
  with_reducible refine aN ?_
  with_reducible refine aI ?_
  with_reducible refine aN ?_
  with_reducible refine aI ?_
  with_reducible refine aN ?_
  with_reducible refine aI ?_
  with_reducible refine aN ?_
  with_reducible refine bl (by kernel_rfl) ?_
  with_reducible refine aI ?_
  with_reducible refine aN ?_
  with_reducible refine aI ?_
  with_reducible refine aN ?_
  with_reducible refine bl (by kernel_rfl) ?_
  with_reducible refine aI ?_
  with_reducible refine om ?_
  with_reducible refine rj (by kernel_rfl) ?_
  with_reducible refine aI ?_
  with_reducible refine aN ?_
  with_reducible refine aI ?_
  with_reducible refine aN ?_
  with_reducible refine aI ?_
  with_reducible refine aN ?_
  with_reducible refine aI ?_
  with_reducible refine aN ?_
  with_reducible refine aI ?_
  with_reducible refine aN ?_
  with_reducible refine aI ?_
  with_reducible refine cV (by kernel_rfl) ?_
  with_reducible refine bl (by kernel_rfl) ?_
  with_reducible refine aI ?_
  with_reducible refine aN ?_
  with_reducible refine aI ?_
  with_reducible refine aN ?_
  with_reducible refine aI ?_
  with_reducible refine aN ?_
  with_reducible refine bl (by kernel_rfl) ?_
  with_reducible refine aI ?_
  with_reducible refine om ?_
  with_reducible refine rj (by kernel_rfl) ?_
  with_reducible refine aI ?_
  with_reducible refine aN ?_
  with_reducible refine aI ?_
  exact And.intro (by kernel_rfl) (by kernel_rfl)
end Go.Mach
set_option maxRecDepth 1000000
namespace Go.Mach
open Res
theorem vy {a : jB} (h : pQ a) : (R.bW a).sat (fun r => r.2 = true → kQ r.1 a) := by
  unfold R.bW
  refine aK fun _ => ?_
  cases h with
  | und => exact aq rfl (aq rfl (aq rfl (aq rfl (aq rfl (aI fun h => by cases h)))))
  | null => exact bl rfl (aI fun _ => .null)
  | wx b hb =>
    rcases hb with rfl | rfl
    · exact aq rfl (bl rfl (aI fun _ => .fls))
    · exact aq rfl (bl rfl (aI fun _ => .tru))
  | num n hn =>
    obtain ⟨n1, n2⟩ := n
    refine aq rfl (aq rfl (bl rfl (jb (fun h0 => aI fun h1 => ?_) fun _ => aI fun h => by cases h)))
    have h0 : n1 = 0 := h0
    subst h0
    exact .num n2 (of_decide_eq_true h1) (hn rfl).2
  | big b hb =>
    obtain ⟨ng, m⟩ := b
    refine aq rfl (aq rfl (aq rfl (bl rfl (aI fun h1 => ?_))))
    have h1 : ng = false := by simpa using h1
    subst h1
    exact .big m hb
  | str s hs => exact aq rfl (aq rfl (aq rfl (aq rfl (bl rfl (aI fun _ => .str s hs)))))
  | obj r hr => exact aq rfl (aq rfl (aq rfl (aq rfl (aq rfl (aI fun h => by cases h)))))
end Go.Mach

set_option maxRecDepth 1000000
namespace Go.Mach
open Res
abbrev asks (l : List Int) : cu.den × ee.den := ((11, (0, (0, (0, (0, (false, (false, (0, (0, ((0, 0), (l, 0))))))))))), (0, []))
abbrev eName (s : Int) : List Int := if s = 1 then [84, 121, 112, 101, 69, 114, 114, 111, 114] else if s = 2 then [82, 97, 110, 103, 101, 69, 114, 114, 111, 114] else if s = 4 then [82, 101, 102, 101, 114, 101, 110, 99, 101, 69, 114, 114, 111, 114] else [83, 121, 110, 116, 97, 120, 69, 114, 114, 111, 114]
inductive Out (v : jB) : Int → cu.den × ee.den → Prop
  | asks (l : List Int) : (R.bZ v).strip = some (l, 0) → Out v 0 (asks l)
  | exit (q : cu.den) (e : List Int) : Out v 3 (q, (3, e))
  | thrown (q : cu.den) (s : Int) : s = 1 ∨ s = 2 ∨ s = 4 ∨ s = 5 → Out v s (q, (2, eName s))
end Go.Mach
set_option maxRecDepth 1000000
namespace Go.Mach
open Res
end Go.Mach
set_option maxRecDepth 1000000
namespace Go.Mach
open Res
theorem xe : ∀ F : Res Bool, F = R.b8 → F.sat (· = true) := by
  intro F h
  have h2 := rW
  rw [← h] at h2
  exact Res.fB h2 rfl
instance xl {a} : Safe (R.bW a) := by unfold R.bW; repeat' (first | with_reducible (first | apply Safe.g' | apply Safe.br' | apply Safe.bd' | apply Safe.sm' | intro _ | infer_instance))
theorem sX (a : jB) : (R.bW a).sat fun _ => True := safe
theorem wY {a : jB} {β : Type} {Q : β → Prop} {k : iu × Bool → Res β} (h1 : ∀ x, kQ x a → (k (x, true)).sat Q) (h2 : ∀ x e, e = false ∨ ¬ pQ a → (k (x, e)).sat Q) : ((R.bW a).bind k).sat Q := by
  by_cases hm : pQ a
  · refine bE (vy hm) fun ⟨x, e⟩ hx => ?_
    cases e
    · exact h2 x _ (.inl rfl)
    · exact h1 x (hx rfl)
  · exact bE (sX a) fun ⟨x, e⟩ _ => h2 x e (.inr hm)
end Go.Mach
set_option maxRecDepth 1000000
namespace Go.Mach
open Res
theorem yP {a : jB} {e : Bool} (h : e = false ∨ ¬ pQ a) : (br (!e) (.ok true) (Res.bind (R.er a) fun r3 => Res.ok ((!r3)))).sat (· = true) := by
  refine jn (fW (fun he => bE uT fun r hr => aI ?_) fun _ => aI rfl)
  rcases h with h | h
  · rw [h] at he; cases he
  · cases r
    · rfl
    · exact absurd (hr rfl) h
theorem ug {a : jB} {l : List Int} (hu : (R.bZ a).strip = some (l, 0)) : (R.dG (11, (0, (0, (0, (0, (false, (false, (0, (0, ((0, 0), (l, 0))))))))))) (0, []) a 0).sat (· = true) := by
  unfold R.dG
  exact aK fun _ => bl rfl (aO (fB hu rfl) (aK fun _ => bl rfl (bl rfl (bl rfl (aO nI (aI rfl))))))
theorem qb (a : jB) : nU (R.cC a) (· = true) := by
  constructor
  unfold R.cC
  have firstF := xe
  generalize hF : R.b8 = F at firstF ⊢
  have nf := firstF _ rfl
  refine aK fun _ => aO nf (aq rfl ?_)
  refine wY (fun x hx => ?_) fun x e he => aK fun _ => ?_
  · refine aK fun _ => ?_
    refine aO (a := false) (aq rfl (aO (rR hx) (aI rfl))) (aq rfl ?_)
    refine aO (a := false) (aO (u7 hx) (aq rfl (aO (vM hx) (aq rfl (aO (vG hx) (aI rfl)))))) (aq rfl ?_)
    refine vO (xC hx) fun ⟨l, s⟩ hu ⟨_, hs⟩ => aK fun _ => ?_
    have hs : s = 0 := hs
    subst hs
    have hk : a.1 ≠ 6 := by cases hx <;> simp
    refine aO (a := (20, (20, 50))) (dd (by kernel_rfl)) (aK fun _ => aO (oh (wW hx) (ml hk hu (yH hx))) (aK fun _ => ?_))
    refine aO (a := (20, (20, 50))) (dd (by kernel_rfl)) (aK fun _ => aO (oh (wG hx) (ml hk hu (yM hx))) (aK fun _ => ?_))
    refine aO (a := (20, (20, 50))) (dd (by kernel_rfl)) (aK fun _ => aO (oh (vX hx) (s5 (xn hx hu))) (aK fun _ => ?_))
    exact aO nf (bl rfl (bl rfl (bl rfl (aO nI (bl rfl (bl rfl (aO nI (bl rfl (aO (ug hu) (aI rfl))))))))))
  · exact aO (a := true) (yP he) (bl rfl (aO nf (aI rfl)))
end Go.Mach
namespace Go.Mach
theorem uX {P : Program} {c : OpenClaim} (h : P.funcs.any Func.goes = false) (hs : c.start = .entering) : false = c.goesBy P := by
  have h1 : ∀ g : Nat, (P.funcs[g]?).any Func.goes = false := fun g => by
    cases hg : P.funcs[g]? with
    | none => rfl
    | some fn => simpa using (Array.any_eq_false'.1 h) fn (Array.mem_of_getElem? hg)
  have h2 : ∀ f, P.goes f = false := fun f => by
    unfold Program.goes
    rw [h, Bool.and_false, Bool.or_false, List.any_eq_false]
    exact fun g _ => by rw [h1 g]; decide
  have h3 : P.goesFrom c.func = false := by
    unfold Program.goesFrom
    cases P.funcNamed c.func with
    | none => rfl
    | some f => exact h2 f
  unfold OpenClaim.goesBy Program.goesAt
  rw [h3, hs]
  rfl
end Go.Mach
