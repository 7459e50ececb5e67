/-
  Proved here: the law renlaw12.EvalArrays returns true for every input of the stated bulk and leaves its arguments as they were; no further condition.
  By an AI agent; no person has read it.
-/
import Derived.Test.YtimhplnifencnaaGreatDoorPartl
import Derived.KernelRfl
import GoSem.ClaimGoes
set_option linter.all false
set_option linter.deprecated false
set_option maxRecDepth 1000000
namespace Go.Mach
theorem tI : R.cO.strip = some true := by kernel_rfl
theorem nV : R.cO.sat (· = true) := by
  have h := tI
  generalize R.cO = m at h
  exact Res.ec h rfl
end Go.Mach
set_option maxRecDepth 100000
namespace Go.Mach
open Res
theorem eL {α : Type} {m : Res α} {a : α} (h : m.strip = some a) : m.sat (· = a) := Res.ec h rfl
abbrev xH := aB.den
abbrev TreeT := List xH
theorem vA {t : TreeT} {e0 : xH} (hl : t.length ≤ 4096) (h0 : t[0]? = some e0) (hk0 : e0.1 = 1) (ho : (R.gD t).sat (· = true)) (h1 : ∀ (n : Nat) (e : xH), 0 < n → t[n]? = some e → e.1 ≠ 1) (hf : ∀ (n : Nat) (e : xH), t[n]? = some e → (R.du e).sat (· = true))
    (hk : ∀ n : Nat, n < t.length → (R.gY t n).sat (· = true)) (hd : (R.fc t).sat fun d => (R.ca d).sat fun m => m ≤ 48) : (R.fU t).sat (· = true) := by
  unfold R.fU
  have hpos : 0 < t.length := (List.getElem?_eq_some_iff.1 h0).1
  refine aN fun _ => aP (a := false) ?_ (aM rfl ?_)
  · refine aM (by rw [beq_eq_false_iff_ne]; omega) (aM (by rw [ia]; omega) (jG (by omega) (by simpa using hpos) fun e he _ => ?_))
    have he : t[0]? = some e := he
    rw [h0] at he; cases he
    exact aM (by simp [hk0]) (aP ho (aI rfl))
  refine aP (a := .inl ()) ?_ (tt (bC hd fun d hd => aN fun _ => bC hd fun m hm => aN fun _ => aI (by rw [l0]; exact hm)))
  refine oJ (fun i : Int => i) t.length (by omega) (fun i : Int => 0 ≤ i ∧ i ≤ t.length) ⟨by omega, by omega⟩ (fun i h => h) ?_
  rintro i ⟨i0, i1⟩
  refine fl (fun h => ?_) fun _ => aI rfl
  rw [jN] at h
  have hi : i.toNat < t.length := by omega
  have hin : ((i.toNat : Nat) : Int) = i := by omega
  have w : IntKind.wrap .i64 (i + 1) = i + 1 := wrap64 ⟨by omega, by omega⟩
  refine aP (a := false) (fl (fun hp => ?_) fun hp => ?_) (aM rfl (aI ⟨w, by rw [w]; omega, by rw [w]; omega⟩))
  · rw [jN] at hp
    refine jG i0 hi fun e he _ => ?_
    refine aM (by simpa using h1 _ e (by omega) he) (jG i0 hi fun e' he' _ => aP (hf _ _ he') (aM rfl (aP (a := true) ?_ (aI rfl))))
    have := hk _ hi
    rwa [hin] at this
  · refine jG i0 hi fun e' he' _ => aP (hf _ _ he') (aM rfl (aP (a := true) ?_ (aI rfl)))
    have := hk _ hi
    rwa [hin] at this
theorem sJ {t : TreeT} (hl : t.length ≤ 4096) (hm : (R.fU t).sat (· = true)) {up : List Int} (hp : (R.dx t).sat (· = up)) (hw : ∀ n : Nat, n < t.length → (R.fb t up n).sat (· = false)) : (R.dQ t).sat (· = (0, 0)) := by
  unfold R.dQ
  refine aN fun _ => aP hm (aM rfl (aP hp (aN fun _ => aP (a := .inl ()) ?_ (tt (aI rfl)))))
  refine oJ (fun i : Int => i) t.length (by omega) (fun i : Int => 0 ≤ i ∧ i ≤ t.length) ⟨by omega, by omega⟩ (fun i h => h) ?_
  rintro i ⟨i0, i1⟩
  refine fl (fun h => ?_) fun _ => aI rfl
  rw [jN] at h
  have hi : i.toNat < t.length := by omega
  have hin : ((i.toNat : Nat) : Int) = i := by omega
  have w : IntKind.wrap .i64 (i + 1) = i + 1 := wrap64 ⟨by omega, by omega⟩
  have := hw _ hi
  rw [hin] at this
  exact aP this (aM rfl (aI ⟨w, by rw [w]; omega, by rw [w]; omega⟩))
end Go.Mach
set_option maxRecDepth 1000000
namespace Go.Mach
open Res
abbrev jW := aA.den
abbrev iC := aB.den
theorem rC : ∃ k, fuel = k + 40 := ⟨2 ^ 70 - 40, by decide⟩
theorem w7 {α β : Type} {Q : β → Prop} {m m' : Res α} {a : α} {k : α → Res β} (h : m = m') (h2 : m'.sat (· = a)) (hk : (k a).sat Q) : (m.bind k).sat Q := h ▸ aP h2 hk
theorem zl {α β : Type} {Q : β → Prop} {m : Res α} {P : α → Prop} {k : α → Res β} (h : m.sat P) (hk : ∀ u, m.strip = some u → P u → (k u).sat Q) : (m.bind k).sat Q := by
  by_cases hf : m.facts
  · obtain ⟨u, h1, h2⟩ := oP h hf
    exact aP (ec h1 rfl) (hk u h1 h2)
  · exact bd (j6 hf)
abbrev vz : jW := (0, ((0, 0), ((false, []), ([], 0))))
abbrev qP (n : Int) : jW := (3, ((0, n), ((false, []), ([], 0))))
abbrev vbig (m : List Int) : jW := (4, ((0, 0), ((false, m), ([], 0))))
abbrev vstr (s : List Int) : jW := (5, ((0, 0), ((false, []), (s, 0))))
inductive qQ : jW → Prop
  | und : qQ vz
  | null : qQ (1, vz.2)
  | wo (b : Int) : b = 0 ∨ b = 1 → qQ (2, ((0, 0), ((false, []), ([], b))))
  | num (n : Int × Int) : (n.1 = 0 → -9007199254740991 ≤ n.2 ∧ n.2 ≤ 9007199254740991) → qQ (3, (n, vz.2.2))
  | big (b : Bool × List Int) : (R.gA b).strip = some true → qQ (4, ((0, 0), (b, ([], 0))))
  | str (s : List Int) : s.length ≤ 4096 → qQ (vstr s)
  | obj (r : Int) : 0 ≤ r → qQ (6, ((0, 0), ((false, []), ([], r))))
theorem ke {a : jW} : (R.fS a).sat (fun r => r = true → a = (a.1, vz.2)) := by
  obtain ⟨k, ⟨n1, n2⟩, ⟨ng, mg⟩, s, ref⟩ := a
  unfold R.fS
  refine aN fun _ => fl (fun h1 => ln (fl (fun _ => aI fun h => by cases h) fun h2 => lH (fun h3 => lH (fun h4 => aI fun h5 => ?_) fun _ => aI fun h => by cases h) fun _ => aI fun h => by cases h)) fun _ => aI fun h => by cases h
  simp only [Bool.and_true, Bool.and_eq_true, beq_iff_eq] at h1 h2 h5
  have e3 : mg = [] := List.length_eq_zero_iff.1 (by simpa using h3)
  have e4 : s = [] := List.length_eq_zero_iff.1 (by simpa using h4)
  obtain ⟨rfl, rfl⟩ := h1
  subst h2 e3 e4 h5
  rfl
theorem xt {a : Int × Int} : (R.gp a).sat (fun r => r = true → a.1 = 0 → -9007199254740991 ≤ a.2 ∧ a.2 ≤ 9007199254740991) := by
  unfold R.gp
  refine aN fun _ => lH (fun h => sW (fun h1 => aI fun h2 _ => ⟨h1, of_decide_eq_true h2⟩) fun _ => aI fun h => by cases h) fun h => ?_
  refine bC (R := fun _ => True) (by repeat' (first | with_reducible (first | refine aI ?_ | refine aN fun _ => ?_ | refine ln ?_ | refine qI (fun _ => ?_) fun _ => ?_ | refine sW (fun _ => ?_) fun _ => ?_ | refine lH (fun _ => ?_) fun _ => ?_ | refine bj rfl ?_ | refine aM rfl ?_ | refine fl (fun _ => ?_) fun _ => ?_ | refine yJ ?_ | refine yG ?_ | refine tL ?_ | refine q_e ?_ | refine q_p fun _ _ => ?_ | refine q_b fun _ => ?_ | refine jG ?_ ?_ fun _ _ _ => ?_ | refine jz ?_ ?_ fun _ _ _ => ?_ | refine nr ?_| refine pd ?_ ?_ | refine tc ?_ ?_ | refine xx ?_ ?_ | refine n_d ?_ ?_ | refine s5 (fun _ => ?_) fun _ => ?_ | exact safe | refine bd ?_) | exact trivial | dsimp only [Nx, Dn] | with_reducible (first | rfl | refine And.intro ?_ ?_ | intro _ | contradiction) | omega | refine eQ (by decide) ?_ | (simp (disch := omega) only [wrap64, kH, kV, List.length_append, List.length_cons, List.length_nil, List.length_take, List.length_drop, List.length_set, List.length_replicate, List.length_reverse] <;> omega) | (simp (disch := omega) only [wrap64, kH, kV, List.length_append, List.length_cons, List.length_nil, List.length_take, List.length_drop, List.length_set, List.length_replicate, List.length_reverse] at * <;> omega) | exact Int.tmod_nonneg _ (by omega) | (simp_all [jN, l0, ia, kA] <;> omega))) fun _ _ => fl (fun _ => aI fun _ h0 => absurd h0 h) fun _ => aI fun _ h0 => absurd h0 h
theorem sK {a : jW} : (R.fi a).sat (fun r => r = true → qQ a) := by
  obtain ⟨k, n, b, s, ref⟩ := a
  unfold R.fi
  refine aN fun _ => bC (R := fun c => c = true → k = 0 ∨ k = 1) (lH (fun h => aI fun _ => .inl h) fun _ => aI fun h => .inr (eq_of_beq h)) fun c hc => fl (fun h => ?_) fun _ => ?_
  · refine bC ke fun r hr => aI fun h2 => ?_
    have e : (k, n, b, s, ref) = (k, vz.2) := hr h2
    cases e
    rcases hc h with rfl | rfl
    · exact .und
    · exact .null
  refine lH (fun h => ?_) fun _ => lH (fun h => ?_) fun _ => lH (fun h => ?_) fun _ => lH (fun h => ?_) fun _ => lH (fun h => ?_) fun _ => aI fun h => by cases h
  · refine bC ke fun r hr => fl (fun h1 => ?_) fun _ => aI fun h => by cases h
    have e : (k, n, b, s, (0 : Int)) = (k, vz.2) := hr h1
    cases e
    subst h
    exact lH (fun h => aI fun _ => .wo _ (.inl h)) fun _ => aI fun h => .wo _ (.inr (eq_of_beq h))
  · refine bC ke fun r hr => fl (fun h1 => ?_) fun _ => aI fun h => by cases h
    have e : (k, ((0 : Int), (0 : Int)), b, s, ref) = (k, vz.2) := hr h1
    cases e
    subst h
    exact bC xt fun r hr => aI fun h2 => .num n (hr h2)
  · refine bC ke fun r hr => fl (fun h1 => ?_) fun _ => aI fun h => by cases h
    have e : (k, n, ((false, []) : Bool × List Int), s, ref) = (k, vz.2) := hr h1
    cases e
    subst h
    exact zl (P := fun _ => True) safe fun c hc _ => aI fun h2 => .big b (by rw [hc, h2])
  · refine bC ke fun r hr => fl (fun h1 => ?_) fun _ => aI fun h => by cases h
    have e : (k, n, b, ([] : List Int), ref) = (k, vz.2) := hr h1
    cases e
    subst h
    exact aI fun h2 => .str s (by have h3 : (List.length s : Int) ≤ 4096 := of_decide_eq_true h2; omega)
  · refine bC ke fun r hr => fl (fun h1 => ?_) fun _ => aI fun h => by cases h
    have e : (k, n, b, s, (0 : Int)) = (k, vz.2) := hr h1
    cases e
    subst h
    exact aI fun h2 => .obj ref (of_decide_eq_true h2)
inductive lE : iC → jW → Prop
  | null : lE (36, ([], ([], ((0, 0), ((false, []), []))))) (1, vz.2)
  | tru : lE (34, ([], ([], ((0, 0), ((false, []), []))))) (2, ((0, 0), ((false, []), ([], 1))))
  | fls : lE (35, ([], ([], ((0, 0), ((false, []), []))))) (2, ((0, 0), ((false, []), ([], 0))))
  | num (n : Int) : 0 ≤ n → n ≤ 9007199254740991 → lE (30, ([], ([], ((0, n), ((false, []), []))))) (qP n)
  | big (m : List Int) : (R.gA (false, m)).strip = some true → lE (31, ([], ([], ((0, 0), ((false, m), []))))) (vbig m)
  | str (s : List Int) : s.length ≤ 4096 → lE (32, ([], (s, ((0, 0), ((false, []), []))))) (vstr s)
theorem vO {b : List Int} (h : b.length ≤ 4096) : (R.cH b).sat (· = vstr b) := by
  unfold R.cH
  refine aN fun _ => ?_
  rw [kH, show min (List.length b : Int) 4096 = List.length b by omega]
  refine nr (pd (by omega) (pd (by omega) (bd (aI (aN fun _ => aI ?_)))))
  rw [Int.toNat_natCast, List.drop_zero, List.take_length]
theorem zr {x : iC} {a : jW} (h : lE x a) (G : bD) (r : aK.den) (i : Int) (e : aZ.den) (h0 : decide (0 ≤ i) = true) (hx : r.1[i.toNat]? = some x) : (R.eval_run_value G r i e).sat (· = ((a, 0), r)) := by
  unfold R.eval_run_value
  have hi : i.toNat < List.length r.1 := (List.getElem?_eq_some_iff.1 hx).1
  refine aN fun _ => jz (of_decide_eq_true h0) hi fun y hy _ => ?_
  rw [hx] at hy
  cases hy
  cases h with
  | null => exact eL (by kernel_rfl)
  | tru => exact eL (by kernel_rfl)
  | fls => exact eL (by kernel_rfl)
  | num n h0 h1 => exact eL (by kernel_rfl)
  | big m hm => exact eL (by kernel_rfl)
  | str s hs => exact aM rfl (aM rfl (bj rfl (aP (vO hs) (aN fun _ => aI rfl))))
theorem o4 {x : iC} {a : jW} (h : lE x a) : (R.du x).sat (· = true) := by
  cases h with
  | null => exact eL (by kernel_rfl)
  | tru => exact eL (by kernel_rfl)
  | fls => exact eL (by kernel_rfl)
  | num n h0 h1 =>
    unfold R.du
    refine aN fun _ => aP (a := false) (eL (by kernel_rfl)) (aM rfl (aP (a := false) (eL (by kernel_rfl)) (aM rfl (bj rfl (bj rfl (bj rfl (aP (a := true) ?_ (bj rfl (aI (decide_eq_true h0))))))))))
    unfold R.gp
    exact aN fun _ => bj rfl (bj (decide_eq_true (by show (-9007199254740991 : Int) ≤ n; omega)) (aI (decide_eq_true h1)))
  | big m hm =>
    unfold R.du
    exact aN fun _ => aP (a := false) (eL (by kernel_rfl)) (aM rfl (aP (a := false) (eL (by kernel_rfl)) (aM rfl (aM rfl (bj rfl (bj rfl (aP (ec hm rfl) (bj rfl (aI rfl)))))))))
  | str s hs =>
    unfold R.du
    exact aN fun _ => aP (a := false) (eL (by kernel_rfl)) (aM rfl (aP (a := true) (eL (by kernel_rfl)) (bj rfl (bj rfl (aI (decide_eq_true (by show (List.length s : Int) ≤ 4096; omega)))))))
theorem xa {x : iC} {a : jW} (h : lE x a) : (R.fi a).sat (· = true) := by
  cases h with
  | null => exact eL (by kernel_rfl)
  | tru => exact eL (by kernel_rfl)
  | fls => exact eL (by kernel_rfl)
  | num n h0 h1 =>
    unfold R.fi
    refine aN fun _ => aP (a := false) (eL (by kernel_rfl)) (aM rfl (aM rfl (bj rfl (aP (a := true) (eL (by kernel_rfl)) (bj rfl (aP (a := true) ?_ (aI rfl)))))))
    unfold R.gp
    exact aN fun _ => bj rfl (bj (decide_eq_true (by show (-9007199254740991 : Int) ≤ n; omega)) (aI (decide_eq_true h1)))
  | big m hm =>
    unfold R.fi
    exact aN fun _ => aP (a := false) (eL (by kernel_rfl)) (aM rfl (aM rfl (aM rfl (bj rfl (aP (a := true) (eL (by kernel_rfl)) (bj rfl (aP (ec hm rfl) (aI rfl))))))))
  | str s hs =>
    unfold R.fi
    exact aN fun _ => aP (a := false) (eL (by kernel_rfl)) (aM rfl (aM rfl (aM rfl (aM rfl (bj rfl (aP (a := true) (eL (by kernel_rfl)) (bj rfl (aI (decide_eq_true (by show (List.length s : Int) ≤ 4096; omega))))))))))
theorem wN {a : List Int} : (R.dq a a).sat (· = true) := by
  unfold R.dq
  refine aN fun h => ?_
  simp only [Sg.i, oks, Sh.ok, Ty.ok, List.map, Par.v, Bool.and_eq_true] at h
  have := uR h.1
  refine ln (lH (fun _ => ?_) fun h => absurd rfl h)
  refine bC (q_for (Q := fun x : Unit ⊕ Bool => x = .inl ()) (fun i => i) a.length (by omega) (fun _ => True) (by omega) (by omega) trivial fun i h0 h1 _ => qI (fun hi => jG h0 (by omega) fun e he _ => jG h0 (by omega) fun e' he' _ => ?_) fun _ => aI rfl) fun x hx => ?_
  · rw [he] at he'; cases he'
    exact ln (bj (by simp) (aI ⟨rfl, hi, trivial⟩))
  · subst hx
    exact aI rfl
end Go.Mach
set_option maxRecDepth 1000000
namespace Go.Mach
open Res
noncomputable def tO (t : List iC) : Bool :=
  decide (t.length ≤ 4096) && ((R.gD t).strip == some true && ((List.range t.length).all (fun n => (R.gY t n).strip == some true) && match ((R.fc t).bind R.ca).strip with
    | some m => ile m 48
    | none => false))
theorem tP {e0 : iC} {rest : List iC} (hb : tO (e0 :: rest) = true) (hk0 : e0.1 = 1) (h1 : ∀ e ∈ rest, e.1 ≠ 1) (hf : ∀ e ∈ e0 :: rest, (R.du e).sat (· = true)) : (R.fU (e0 :: rest)).sat (· = true) := by
  simp only [tO, Bool.and_eq_true, decide_eq_true_eq, beq_iff_eq, List.all_eq_true, List.mem_range] at hb
  obtain ⟨b1, b2, b3, b4⟩ := hb
  refine vA (e0 := e0) b1 rfl hk0 (ec b2 rfl) (fun n e hn he => ?_) (fun n e he => hf e (List.mem_of_getElem? he)) (fun n hn => ec (b3 n hn) rfl) ?_
  · obtain ⟨m, rfl⟩ : ∃ m, n = m + 1 := ⟨n - 1, by omega⟩
    exact h1 e (List.mem_of_getElem? (by simpa using he))
  · rw [← tZ]
    split at b4
    · rename_i m hm
      exact ec hm (of_decide_eq_true b4)
    · cases b4
noncomputable def tK (t : List iC) : Bool := match (R.dx t).strip with
  | some up => (List.range t.length).all fun n => (R.fb t up n).strip == some false
  | none => false
theorem sO {t : List iC} (hl : t.length ≤ 4096) (hm : (R.fU t).sat (· = true)) (hb : tK t = true) : (R.dQ t).sat (· = (0, 0)) := by
  unfold tK at hb
  split at hb
  · rename_i up hup
    simp only [List.all_eq_true, List.mem_range, beq_iff_eq] at hb
    exact sJ hl hm (ec hup rfl) fun n hn => ec (hb n hn) rfl
  · cases hb
abbrev nd (k : Int) (name : List UInt8) (kids : List Int) : iC := (k, (name, ([], ((0, 0), ((false, []), kids)))))
abbrev req0 : dZ.den := (0, (0, (0, (0, (0, (false, (false, (0, (0, ((0, 0), ([], 0)))))))))))
theorem tV {t : List iC} {Q : dZ.den × fZ.den → Prop} (hc : (R.dQ t).sat (· = (0, 0))) (hr : (R.cb t (20, (20, 50)) []).sat Q) : (R.ew t (20, (20, 50)) []).sat Q := by
  unfold R.ew
  exact aN fun _ => aP hc (aN fun _ => aP (a := false) (eL (by kernel_rfl)) (aM rfl (bC hr fun x hx => aN fun _ => aI hx)))
theorem yn {x : iC} {a : jW} (h : lE x a) : x.1 ≠ 1 := by cases h <;> simp
end Go.Mach
set_option maxRecDepth 1000000
namespace Go.Mach
open Res
theorem yD {a : jW} (h : qQ a) : (R.bl a).sat (fun r => r.2 = true → lE r.1 a) := by
  unfold R.bl
  refine aN fun _ => ?_
  cases h with
  | und => exact aM rfl (aM rfl (aM rfl (aM rfl (aM rfl (aI fun h => by cases h)))))
  | null => exact bj rfl (aI fun _ => .null)
  | wo b hb =>
    rcases hb with rfl | rfl
    · exact aM rfl (bj rfl (aI fun _ => .fls))
    · exact aM rfl (bj rfl (aI fun _ => .tru))
  | num n hn =>
    obtain ⟨n1, n2⟩ := n
    refine aM rfl (aM rfl (bj rfl (lH (fun h0 => aI fun h1 => ?_) fun _ => aI fun h => by cases h)))
    have h0 : n1 = 0 := h0
    subst h0
    exact .num n2 (of_decide_eq_true h1) (hn rfl).2
  | big b hb =>
    obtain ⟨ng, m⟩ := b
    refine aM rfl (aM rfl (aM rfl (bj rfl (aI fun h1 => ?_))))
    have h1 : ng = false := by simpa using h1
    subst h1
    exact .big m hb
  | str s hs => exact aM rfl (aM rfl (aM rfl (aM rfl (bj rfl (aI fun _ => .str s hs)))))
  | obj r hr => exact aM rfl (aM rfl (aM rfl (aM rfl (aM rfl (aI fun h => by cases h)))))
end Go.Mach
set_option maxRecDepth 100000
namespace Go.Mach
open Res
end Go.Mach
set_option maxRecDepth 1000000
namespace Go.Mach
open Res
theorem w_nof {α β : Type} {Q : β → Prop} {m m' : Res α} {k : α → Res β} (e : m = m') (h : ¬ m'.facts) : (m.bind k).sat Q := e ▸ bd (j6 h)
theorem ui {α : Type} {m : Res α} {P : α → Prop} (h : m.sat P) : ¬ m.facts ∨ ∃ u, m.strip = some u ∧ P u := by
  by_cases hf : m.facts
  · obtain ⟨u, h1, h2⟩ := oP h hf
    exact .inr ⟨u, h1, h2⟩
  · exact .inl hf
theorem wz {v : jW} (hv : v.1 ≠ 6) : (R.bP v).sat (fun r => r.2 = 0) := by
  unfold R.bP
  have hc : (R.bF v).sat (fun c => qQ c ∧ c.1 ≠ 6) := by
    unfold R.bF
    refine aN fun _ => bC sK fun r hr => fl (fun _ => aI ⟨.und, by simp⟩) fun h => aI ⟨hr ?_, hv⟩
    cases r
    · cases h
    · rfl
  have e : ∀ r : List Int, (given (ah.g.o r) (Res.ok ((r, (0 : Int))))).sat (fun r : List Int × Int => r.2 = 0) := fun r => aN fun _ => aI rfl
  refine aN fun _ => bC hc fun c ⟨hm, h6⟩ => aN fun _ => ?_
  cases hm with
  | und => exact bj rfl (bC (fh (by decide)) fun r _ => e r)
  | null => exact aM rfl (bj rfl (bC (fh (by decide)) fun r _ => e r))
  | wo b hb => exact aM rfl (aM rfl (bj rfl (fl (fun _ => bC (fh (by decide)) fun r _ => e r) fun _ => bC (fh (by decide)) fun r _ => e r)))
  | num n hn => exact aM rfl (aM rfl (aM rfl (bj rfl (q_p fun t ht => aN fun _ => bC (fh ht) fun r _ => e r))))
  | big b hb => exact aM rfl (aM rfl (aM rfl (aM rfl (bj rfl (q_p fun t ht => aN fun _ => bC (fh ht) fun r _ => e r)))))
  | str s hs => exact aM rfl (aM rfl (aM rfl (aM rfl (aM rfl (bj rfl (aP (a := s) rfl (aN fun _ => aI rfl)))))))
  | obj r hr => exact absurd rfl h6
abbrev asks (l : List Int) : dZ.den × fZ.den := ((11, (0, (0, (0, (0, (false, (false, (0, (0, ((0, 0), (l, 0))))))))))), (0, []))
abbrev eName (s : Int) : List Int := if s = 1 then [84, 121, 112, 101, 69, 114, 114, 111, 114] else if s = 2 then [82, 97, 110, 103, 101, 69, 114, 114, 111, 114] else if s = 4 then [82, 101, 102, 101, 114, 101, 110, 99, 101, 69, 114, 114, 111, 114] else [83, 121, 110, 116, 97, 120, 69, 114, 114, 111, 114]
inductive Out (v : jW) : Int → dZ.den × fZ.den → Prop
  | asks (l : List Int) : (R.bP v).strip = some (l, 0) → Out v 0 (asks l)
  | exit (q : dZ.den) (e : List Int) : Out v 3 (q, (3, e))
  | thrown (q : dZ.den) (s : Int) : s = 1 ∨ s = 2 ∨ s = 4 ∨ s = 5 → Out v s (q, (2, eName s))
theorem sw {v : jW} {s : Int} {r : dZ.den × fZ.den} (h : Out v s r) : (R.dO r.1 r.2 v s).sat (· = true) := by
  cases h with
  | asks l hu =>
    unfold R.dO
    exact aN fun _ => bj rfl (aP (ec hu rfl) (aN fun _ => bj rfl (bj rfl (bj rfl (aP wN (aI rfl))))))
  | exit q e => exact eL (by kernel_rfl)
  | thrown q s hs => rcases hs with rfl | rfl | rfl | rfl <;> exact eL (by kernel_rfl)
theorem lit_no {x : iC} {a : jW} (h : lE x a) : a.1 ≠ 6 := by cases h <;> simp
end Go.Mach
set_option maxRecDepth 1000000
namespace Go.Mach
open Res
end Go.Mach
set_option maxRecDepth 1000000
namespace Go.Mach
open Res
def iY (n : Nat) : List Int := (List.range n).map fun i => ((8 + i : Nat) : Int)
abbrev uV : List iC := [nd 1 [] [1], nd 3 [] [2], nd 50 [] [3, 6], nd 52 [114, 101, 112, 111, 114, 116] [4], nd 52 [97, 103, 101, 110, 116] [5], nd 33 [36, 50, 54, 50] []]
abbrev mT (x : iC) (n m : Nat) : List iC := uV ++ (nd 53 [] [7, ((8 + n : Nat) : Int)] :: nd 38 [] (iY n) :: (List.replicate n x ++ [(30, ([], ([], ((0, (m : Int)), ((false, []), [])))))]))
abbrev nU (x : iC) (n : Nat) : List iC := uV ++ (nd 52 [108, 101, 110, 103, 116, 104] [7] :: nd 38 [] (iY n) :: List.replicate n x)
def pf (i : Nat) : List Int := if i < 10 then [48 + (i : Int)] else [48 + ((i / 10 : Nat) : Int), 48 + ((i % 10 : Nat) : Int)]
def propsA (a : jW) (n : Nat) : List bN.den := (List.range n).map fun i => (pf i, a)
abbrev cell0 : gr.den := (9, (0, ([], ([], ([], (0, (-1, (vz, (0, (0, (0, (0, []))))))))))))
abbrev kK (a : jW) (n : Nat) : gr.den := (2, (0, (propsA a n, ([], ([], (0, (0, (vz, (0, (0, (0, (0, []))))))))))))
abbrev xb : aZ.den := (0, (vz, false))
abbrev lO (t : List iC) (h : List gr.den) (d b : Int) : aK.den := (t, ((20, (20, 50)), ([], (0, ((20, h), (d, (b, (req0, (0, [])))))))))
theorem yI {n i : Nat} (h : i < n) : (iY n)[i]? = some ((8 + i : Nat) : Int) := by simp [iY, h]
theorem pz (n : Nat) : (iY n).length = n := by simp [iY]
theorem upto {P : Nat → Prop} {α : Type} {f g : Nat → α} {n : Nat} (h : (List.range n).map f = (List.range n).map g) {i : Nat} (hi : i < n) : f i = g i := List.map_inj_left.1 h i (List.mem_range.2 hi)
theorem zo {i : Nat} (hi : i < 20) : (R.fk (i : Int)).sat (· = pf i) :=
  ec (upto (P := fun _ => True) (f := fun i : Nat => (R.fk (i : Int)).strip) (g := fun i => some (pf i)) (n := 20) (by kernel_rfl) hi) rfl
theorem put_A (a : jW) {i : Nat} (hi : i < 20) : (R.cz (20, [cell0, kK a i]) 1 (pf i) a).sat (· = (true, (20, [cell0, kK a (i + 1)]))) :=
  ec (upto (P := fun _ => True) (f := fun i : Nat => (R.cz (20, [cell0, kK a i]) 1 (pf i) a).strip) (g := fun i => some (true, (20, [cell0, kK a (i + 1)]))) (n := 20) (by kernel_rfl) hi) rfl
theorem elem_A {x : iC} {a : jW} (h : lE x a) {t : List iC} {i : Nat} (hi : i < 20) (hx : t[8 + i]? = some x) (k : Nat) (hp : List gr.den) : (R.eval_run_expression (bV (k + 1)) (lO t hp 4 ((7 + i : Nat) : Int)) ((8 + i : Nat) : Int) xb).sat (· = ((a, 0), lO t hp 4 ((7 + (i + 1) : Nat) : Int))) := by
  unfold R.eval_run_expression
  have w : IntKind.wrap .i64 (((7 + i : Nat) : Int) + 1) = ((7 + (i + 1) : Nat) : Int) := by rw [wrap64 (by omega)]; omega
  refine aN fun _ => aP (a := (true, (t, ((20, (20, 50)), ([], (0, ((20, hp), (5, (((7 + (i + 1) : Nat) : Int), (req0, (0, []))))))))))) ?_ (aN fun _ => aM rfl (aP (zr h _ _ _ _ (decide_eq_true (by omega)) (by show t[((8 + i : Nat) : Int).toNat]? = some x; rw [Int.toNat_natCast]; exact hx)) (aN fun _ => aI rfl)))
  unfold R.bH
  refine aN fun _ => aM rfl (aM ?_ (aI ?_))
  · show ile 50 ((7 + i : Nat) : Int) = false
    rw [kA]; omega
  · rw [← w]; rfl
theorem qz {x : iC} {a : jW} (h : lE x a) {t : List iC} {n : Nat} (hn : n ≤ 20) (hx : ∀ i, i < n → t[8 + i]? = some x) (k : Nat) : (R.eval_run_array (bV (k + 2)) (lO t [cell0] 4 7) (iY n) xb).sat (· = (((6, ((0, 0), ((false, []), ([], 1)))), 0), lO t [cell0, kK a n] 4 ((7 + n : Nat) : Int))) := by
  unfold R.eval_run_array
  refine aN fun _ => aP (a := (((6, ((0, 0), ((false, []), ([], 1)))), 0), lO t [cell0, kK a 0] 4 7)) (eL (by kernel_rfl)) (aN fun _ => aM rfl ?_)
  refine aP (a := .inl (lO t [cell0, kK a n] 4 ((7 + n : Nat) : Int))) ?_ (tt (aI rfl))
  refine oJ (fun x : Int × aK.den => x.1) n (by omega) (fun x => ∃ j : Nat, j ≤ n ∧ x = ((j : Int), lO t [cell0, kK a j] 4 ((7 + j : Nat) : Int))) ⟨0, by omega, rfl⟩ (fun x ⟨j, hj, e⟩ => by subst e; simp only; omega) ?_
  rintro _ ⟨j, hj, rfl⟩
  rw [pz]
  refine fl (fun hlt => ?_) fun hlt => ?_
  · rw [jN] at hlt
    have hjn : j < n := by omega
    refine jz (by omega) (by rw [pz]; omega) fun e he _ => ?_
    have he : (iY n)[j]? = some e := he
    rw [yI hjn] at he
    cases he
    refine aP (elem_A h (by omega) (hx j hjn) k _) (aN fun _ => aM rfl (aP (zo (by omega)) (aN fun _ => aP (put_A a (by omega)) (aN fun _ => aI ?_))))
    have w : IntKind.wrap .i64 ((j : Int) + 1) = ((j + 1 : Nat) : Int) := by rw [wrap64 (by omega)]; omega
    exact ⟨by rw [w]; omega, j + 1, by omega, by rw [w]⟩
  · rw [ia] at hlt
    obtain rfl : j = n := by omega
    exact aI rfl
theorem get_at (t : List iC) (a : jW) {n m : Nat} (hn : n < 21) (hm : m < 31) (d b : Int) : (R.cp (lO t [cell0, kK a n] d b) ([], ((6, ((0, 0), ((false, []), ([], 1)))), qP (m : Int)))).sat (· = (((if m < n then a else vz), 0), lO t [cell0, kK a n] d b)) :=
  ec (upto (P := fun _ => True) (f := fun m : Nat => (R.cp (lO t [cell0, kK a n] d b) ([], ((6, ((0, 0), ((false, []), ([], 1)))), qP (m : Int)))).strip) (g := fun m => some (((if m < n then a else vz), 0), lO t [cell0, kK a n] d b)) (n := 31)
    (upto (P := fun _ => True) (f := fun n => (List.range 31).map fun m : Nat => (R.cp (lO t [cell0, kK a n] d b) ([], ((6, ((0, 0), ((false, []), ([], 1)))), qP (m : Int)))).strip) (g := fun n => (List.range 31).map fun m => some (((if m < n then a else vz), 0), lO t [cell0, kK a n] d b)) (n := 21) (by kernel_rfl) hn) hm) rfl
theorem wv (t : List iC) (a : jW) {n : Nat} (hn : n < 21) (d b : Int) : (R.cp (lO t [cell0, kK a n] d b) ([], ((6, ((0, 0), ((false, []), ([], 1)))), vstr [108, 101, 110, 103, 116, 104]))).sat (· = ((qP (n : Int), 0), lO t [cell0, kK a n] d b)) :=
  ec (upto (P := fun _ => True) (f := fun n : Nat => (R.cp (lO t [cell0, kK a n] d b) ([], ((6, ((0, 0), ((false, []), ([], 1)))), vstr [108, 101, 110, 103, 116, 104]))).strip) (g := fun n => some ((qP (n : Int), 0), lO t [cell0, kK a n] d b)) (n := 21) (by kernel_rfl) hn) rfl
theorem yw {x : iC} {a : jW} (h : lE x a) {n : Nat} (hn : n < 21) (m : Nat) : tO (mT x n m) = true ∧ tK (mT x n m) = true := by
  cases h <;> exact ⟨upto (P := fun _ => True) (f := fun n => tO (mT _ n m)) (g := fun _ => true) (n := 21) (by kernel_rfl) hn, upto (P := fun _ => True) (f := fun n => tK (mT _ n m)) (g := fun _ => true) (n := 21) (by kernel_rfl) hn⟩
theorem zF {x : iC} {a : jW} (h : lE x a) {n : Nat} (hn : n < 21) : tO (nU x n) = true ∧ tK (nU x n) = true := by
  cases h <;> exact ⟨upto (P := fun _ => True) (f := fun n => tO (nU _ n)) (g := fun _ => true) (n := 21) (by kernel_rfl) hn, upto (P := fun _ => True) (f := fun n => tK (nU _ n)) (g := fun _ => true) (n := 21) (by kernel_rfl) hn⟩
end Go.Mach
set_option maxRecDepth 1000000
namespace Go.Mach
open Res
theorem arrV {x0 : iC} {a0 : jW} (h0 : lE x0 a0) {n m : Nat} : (if m < n then a0 else vz).1 ≠ 6 := by
  by_cases h : m < n
  · rw [if_pos h]; exact lit_no h0
  · rw [if_neg h]; simp
theorem get8 {l r : List iC} (hl : l.length = 8) (i : Nat) : (l ++ r)[8 + i]? = r[i]? := by
  rw [List.getElem?_append_right (by omega), hl, Nat.add_sub_cancel_left]
theorem uf {x : iC} {n m i : Nat} (h : i < n) : (mT x n m)[8 + i]? = some x := by
  refine (get8 (l := uV ++ [nd 53 [] [7, ((8 + n : Nat) : Int)], nd 38 [] (iY n)]) (r := List.replicate n x ++ [(30, ([], ([], ((0, (m : Int)), ((false, []), [])))))]) rfl i).trans ?_
  rw [List.getElem?_append_left (by simpa using h)]
  simp [h]
theorem vF {x : iC} {n i : Nat} (h : i < n) : (nU x n)[8 + i]? = some x := by
  refine (get8 (l := uV ++ [nd 52 [108, 101, 110, 103, 116, 104] [7], nd 38 [] (iY n)]) (r := List.replicate n x) rfl i).trans ?_
  simp [h]
theorem uc {x : iC} {n m : Nat} : (mT x n m)[8 + n]? = some (30, ([], ([], ((0, (m : Int)), ((false, []), []))))) := by
  refine (get8 (l := uV ++ [nd 53 [] [7, ((8 + n : Nat) : Int)], nd 38 [] (iY n)]) (r := List.replicate n x ++ [(30, ([], ([], ((0, (m : Int)), ((false, []), [])))))]) rfl n).trans ?_
  rw [List.getElem?_append_right (by simp)]
  simp
theorem yU {x0 : iC} {a0 : jW} (h0 : lE x0 a0) {n m : Nat} (hn : n ≤ 20) (hm : m ≤ 30) {Q} (hn0 : ¬ (R.bP (if m < n then a0 else vz)).facts) : (R.cb (mT x0 n m) (20, (20, 50)) []).sat (Q) := by
  unfold R.cb R.cD
  obtain ⟨k, hk⟩ := rC
  rw [hk]
  have hA : ((bV (k + 25)).eval_run_array (lO (mT x0 n m) [cell0] 4 7) (iY n) xb).sat (· = (((6, ((0, 0), ((false, []), ([], 1)))), 0), lO (mT x0 n m) [cell0, kK a0 n] 4 ((7 + n : Nat) : Int))) := qz h0 hn (fun i hi => uf hi) (k + 22)
  have hb : ile 50 ((7 + n : Nat) : Int) = false := by rw [kA]; omega
  have hi : (mT x0 n m)[((8 + n : Nat) : Int).toNat]? = some (30, ([], ([], ((0, (m : Int)), ((false, []), []))))) := by rw [Int.toNat_natCast]; exact uc
  have hG := get_at (mT x0 n m) a0 (n := n) (m := m) (by omega) (by omega) 3 (IntKind.wrap .i64 (((7 + n : Nat) : Int) + 1))
  with_reducible refine aE ?_
  with_reducible refine aq (by kernel_rfl) ?_
  with_reducible refine aE ?_
  with_reducible refine bd ?_
  with_reducible refine aE ?_
  with_reducible refine aq (by kernel_rfl) ?_
  with_reducible refine aE ?_
  with_reducible refine aM (by kernel_rfl) ?_
  with_reducible refine aq (by kernel_rfl) ?_
  with_reducible refine aE ?_
  with_reducible refine aM (by kernel_rfl) ?_
  with_reducible refine fJ (by kernel_rfl) (by kernel_rfl) ?_
  with_reducible refine kY ?_; delta R.eval_run_list
  with_reducible refine aE ?_
  with_reducible refine bd ?_
  with_reducible refine nk hk ?_
  with_reducible refine bj (by kernel_rfl) ?_
  with_reducible refine fJ (by kernel_rfl) (by kernel_rfl) ?_
  with_reducible refine iq ?_; delta R.eval_run_statement
  with_reducible refine aE ?_
  with_reducible refine aq (by kernel_rfl) ?_
  with_reducible refine aE ?_
  with_reducible refine aM (by kernel_rfl) ?_
  with_reducible refine kn ?_; delta R.eval_run_act
  with_reducible refine aE ?_
  with_reducible refine fJ (by kernel_rfl) (by kernel_rfl) ?_
  with_reducible refine bj (by kernel_rfl) ?_
  with_reducible refine fJ (by kernel_rfl) (by kernel_rfl) ?_
  with_reducible refine bk ?_; delta R.eval_run_expression
  with_reducible refine aE ?_
  with_reducible refine aq (by kernel_rfl) ?_
  with_reducible refine aE ?_
  with_reducible refine aM (by kernel_rfl) ?_
  with_reducible refine ct ?_; delta R.eval_run_value
  with_reducible refine aE ?_
  with_reducible refine fJ (by kernel_rfl) (by kernel_rfl) ?_
  iterate 4 (with_reducible refine aM (by kernel_rfl) ?_)
  with_reducible refine aq (by kernel_rfl) ?_
  iterate 5 (with_reducible refine aM (by kernel_rfl) ?_)
  with_reducible refine aq (by kernel_rfl) ?_
  with_reducible refine aM (by kernel_rfl) ?_
  with_reducible refine eO ?_; delta R.eval_run_operation
  with_reducible refine aE ?_
  with_reducible refine aM (by kernel_rfl) ?_
  with_reducible refine aq (by kernel_rfl) ?_
  iterate 5 (with_reducible refine aM (by kernel_rfl) ?_)
  with_reducible refine bj (by kernel_rfl) ?_
  with_reducible refine jl ?_; delta R.eval_run_callee
  with_reducible refine aE ?_
  with_reducible refine fJ (by kernel_rfl) (by kernel_rfl) ?_
  with_reducible refine aq (by kernel_rfl) ?_
  with_reducible refine aE ?_
  with_reducible refine aM (by kernel_rfl) ?_
  with_reducible refine eQ (by kernel_rfl) ?_
  with_reducible refine iu ?_; delta R.eval_run_arguments
  with_reducible refine aE ?_
  with_reducible refine bd ?_
  with_reducible refine nk hk ?_
  with_reducible refine bj (by kernel_rfl) ?_
  with_reducible refine fJ (by kernel_rfl) (by kernel_rfl) ?_
  with_reducible refine bk ?_; delta R.eval_run_expression
  with_reducible refine aE ?_
  with_reducible refine aq (by kernel_rfl) ?_
  with_reducible refine aE ?_
  with_reducible refine aM (by kernel_rfl) ?_
  with_reducible refine ct ?_; delta R.eval_run_value
  with_reducible refine aE ?_
  with_reducible refine fJ (by kernel_rfl) (by kernel_rfl) ?_
  iterate 4 (with_reducible refine aM (by kernel_rfl) ?_)
  with_reducible refine aq (by kernel_rfl) ?_
  iterate 5 (with_reducible refine aM (by kernel_rfl) ?_)
  with_reducible refine aq (by kernel_rfl) ?_
  with_reducible refine aM (by kernel_rfl) ?_
  with_reducible refine eO ?_; delta R.eval_run_operation
  with_reducible refine aE ?_
  with_reducible refine aM (by kernel_rfl) ?_
  with_reducible refine aq (by kernel_rfl) ?_
  iterate 7 (with_reducible refine aM (by kernel_rfl) ?_)
  with_reducible refine jD ?_; delta R.eval_run_property
  with_reducible refine aE ?_
  with_reducible refine kG ?_; delta R.eval_run_parts
  with_reducible refine aE ?_
  with_reducible refine fJ (by kernel_rfl) (by kernel_rfl) ?_
  with_reducible refine aM (by kernel_rfl) ?_
  with_reducible refine fJ (by kernel_rfl) (by kernel_rfl) ?_
  with_reducible refine bk ?_; delta R.eval_run_expression
  with_reducible refine aE ?_
  with_reducible refine aq (by kernel_rfl) ?_
  with_reducible refine aE ?_
  with_reducible refine aM (by kernel_rfl) ?_
  with_reducible refine ct ?_; delta R.eval_run_value
  with_reducible refine aE ?_
  with_reducible refine fJ (by kernel_rfl) (by kernel_rfl) ?_
  iterate 4 (with_reducible refine aM (by kernel_rfl) ?_)
  with_reducible refine aq (by kernel_rfl) ?_
  iterate 3 (with_reducible refine aM (by kernel_rfl) ?_)
  with_reducible refine bj (by kernel_rfl) ?_
  with_reducible refine ql hA (by kernel_rfl) ?_
  with_reducible refine aE ?_
  with_reducible refine aI ?_
  with_reducible refine aE ?_
  with_reducible refine aI ?_
  with_reducible refine aE ?_
  iterate 2 (with_reducible refine aM (by kernel_rfl) ?_)
  with_reducible refine fJ (by kernel_rfl) (by kernel_rfl) ?_
  with_reducible refine bk ?_; delta R.eval_run_expression
  with_reducible refine aE ?_
  with_reducible refine bd ?_; delta R.bH
  with_reducible refine aE ?_
  with_reducible refine aM (by kernel_rfl) ?_
  with_reducible refine w_brf hb (by kernel_rfl) ?_
  with_reducible refine aI ?_
  with_reducible refine aE ?_
  with_reducible refine aM (by kernel_rfl) ?_
  with_reducible refine ct ?_; delta R.eval_run_value
  with_reducible refine aE ?_
  with_reducible refine yp hi (by kernel_rfl) (by kernel_rfl) ?_
  with_reducible refine bj (by kernel_rfl) ?_
  with_reducible refine aq (by kernel_rfl) ?_
  with_reducible refine aE ?_
  with_reducible refine aI ?_
  with_reducible refine aE ?_
  with_reducible refine aI ?_
  with_reducible refine aE ?_
  with_reducible refine aM (by kernel_rfl) ?_
  with_reducible refine aI ?_
  with_reducible refine aE ?_
  with_reducible refine aM (by kernel_rfl) ?_
  with_reducible refine ql hG (by kernel_rfl) ?_
  with_reducible refine aE ?_
  with_reducible refine aI ?_
  with_reducible refine aE ?_
  with_reducible refine aI ?_
  with_reducible refine aE ?_
  with_reducible refine aI ?_
  with_reducible refine aE ?_
  with_reducible refine aI ?_
  with_reducible refine aE ?_
  with_reducible refine aM (by kernel_rfl) ?_
  with_reducible refine eQ (by kernel_rfl) ?_
  with_reducible refine aI ?_
  with_reducible refine tx ?_
  with_reducible refine nY ?_
  with_reducible refine aM (by kernel_rfl) ?_
  with_reducible refine aI ?_
  with_reducible refine py ?_
  with_reducible refine sy (by kernel_rfl) ?_
  with_reducible refine aI ?_
  with_reducible refine aE ?_
  with_reducible refine aM (by kernel_rfl) ?_
  with_reducible refine kX ?_; delta R.eval_run_call
  with_reducible refine aE ?_
  with_reducible refine aM (by kernel_rfl) ?_
  with_reducible refine aq (by kernel_rfl) ?_
  with_reducible refine aE ?_
  with_reducible refine aq (by kernel_rfl) ?_
  with_reducible refine bj (by kernel_rfl) ?_
  with_reducible refine kT ?_; delta R.eval_run_does
  with_reducible refine aE ?_
  with_reducible refine aq (by kernel_rfl) ?_
  with_reducible refine aE ?_
  with_reducible refine aq (by kernel_rfl) ?_
  iterate 10 (with_reducible refine aM (by kernel_rfl) ?_)
  with_reducible refine aq (by kernel_rfl) ?_
  with_reducible refine aM (by kernel_rfl) ?_
  with_reducible refine aq (by kernel_rfl) ?_
  with_reducible refine aM (by kernel_rfl) ?_
  with_reducible refine aq (by kernel_rfl) ?_
  with_reducible refine aM (by kernel_rfl) ?_
  with_reducible refine aq (by kernel_rfl) ?_
  with_reducible refine bj (by kernel_rfl) ?_
  with_reducible refine aq (by kernel_rfl) ?_
  with_reducible refine aE ?_
  with_reducible refine kU ?_; delta R.eval_run_host
  with_reducible refine aE ?_
  with_reducible refine bd ?_
  iterate 3 (with_reducible refine aM (by kernel_rfl) ?_)
  with_reducible refine bj (by kernel_rfl) ?_
  with_reducible exact w_nof (m' := R.bP (if m < n then a0 else vz)) (by kernel_rfl) hn0
theorem yT {x0 : iC} {a0 : jW} (h0 : lE x0 a0) {n m : Nat} (hn : n ≤ 20) (hm : m ≤ 30) {l : List Int} (hu : (R.bP (if m < n then a0 else vz)).strip = some (l, 0)) : (R.cb (mT x0 n m) (20, (20, 50)) []).sat (· = asks l) := by
  unfold R.cb R.cD
  obtain ⟨k, hk⟩ := rC
  rw [hk]
  have hA : ((bV (k + 25)).eval_run_array (lO (mT x0 n m) [cell0] 4 7) (iY n) xb).sat (· = (((6, ((0, 0), ((false, []), ([], 1)))), 0), lO (mT x0 n m) [cell0, kK a0 n] 4 ((7 + n : Nat) : Int))) := qz h0 hn (fun i hi => uf hi) (k + 22)
  have hb : ile 50 ((7 + n : Nat) : Int) = false := by rw [kA]; omega
  have hi : (mT x0 n m)[((8 + n : Nat) : Int).toNat]? = some (30, ([], ([], ((0, (m : Int)), ((false, []), []))))) := by rw [Int.toNat_natCast]; exact uc
  have hG := get_at (mT x0 n m) a0 (n := n) (m := m) (by omega) (by omega) 3 (IntKind.wrap .i64 (((7 + n : Nat) : Int) + 1))
  with_reducible refine aE ?_
  with_reducible refine aq (by kernel_rfl) ?_
  with_reducible refine aE ?_
  with_reducible refine bd ?_
  with_reducible refine aE ?_
  with_reducible refine aq (by kernel_rfl) ?_
  with_reducible refine aE ?_
  with_reducible refine aM (by kernel_rfl) ?_
  with_reducible refine aq (by kernel_rfl) ?_
  with_reducible refine aE ?_
  with_reducible refine aM (by kernel_rfl) ?_
  with_reducible refine fJ (by kernel_rfl) (by kernel_rfl) ?_
  with_reducible refine kY ?_; delta R.eval_run_list
  with_reducible refine aE ?_
  with_reducible refine bd ?_
  with_reducible refine nk hk ?_
  with_reducible refine bj (by kernel_rfl) ?_
  with_reducible refine fJ (by kernel_rfl) (by kernel_rfl) ?_
  with_reducible refine iq ?_; delta R.eval_run_statement
  with_reducible refine aE ?_
  with_reducible refine aq (by kernel_rfl) ?_
  with_reducible refine aE ?_
  with_reducible refine aM (by kernel_rfl) ?_
  with_reducible refine kn ?_; delta R.eval_run_act
  with_reducible refine aE ?_
  with_reducible refine fJ (by kernel_rfl) (by kernel_rfl) ?_
  with_reducible refine bj (by kernel_rfl) ?_
  with_reducible refine fJ (by kernel_rfl) (by kernel_rfl) ?_
  with_reducible refine bk ?_; delta R.eval_run_expression
  with_reducible refine aE ?_
  with_reducible refine aq (by kernel_rfl) ?_
  with_reducible refine aE ?_
  with_reducible refine aM (by kernel_rfl) ?_
  with_reducible refine ct ?_; delta R.eval_run_value
  with_reducible refine aE ?_
  with_reducible refine fJ (by kernel_rfl) (by kernel_rfl) ?_
  iterate 4 (with_reducible refine aM (by kernel_rfl) ?_)
  with_reducible refine aq (by kernel_rfl) ?_
  iterate 5 (with_reducible refine aM (by kernel_rfl) ?_)
  with_reducible refine aq (by kernel_rfl) ?_
  with_reducible refine aM (by kernel_rfl) ?_
  with_reducible refine eO ?_; delta R.eval_run_operation
  with_reducible refine aE ?_
  with_reducible refine aM (by kernel_rfl) ?_
  with_reducible refine aq (by kernel_rfl) ?_
  iterate 5 (with_reducible refine aM (by kernel_rfl) ?_)
  with_reducible refine bj (by kernel_rfl) ?_
  with_reducible refine jl ?_; delta R.eval_run_callee
  with_reducible refine aE ?_
  with_reducible refine fJ (by kernel_rfl) (by kernel_rfl) ?_
  with_reducible refine aq (by kernel_rfl) ?_
  with_reducible refine aE ?_
  with_reducible refine aM (by kernel_rfl) ?_
  with_reducible refine eQ (by kernel_rfl) ?_
  with_reducible refine iu ?_; delta R.eval_run_arguments
  with_reducible refine aE ?_
  with_reducible refine bd ?_
  with_reducible refine nk hk ?_
  with_reducible refine bj (by kernel_rfl) ?_
  with_reducible refine fJ (by kernel_rfl) (by kernel_rfl) ?_
  with_reducible refine bk ?_; delta R.eval_run_expression
  with_reducible refine aE ?_
  with_reducible refine aq (by kernel_rfl) ?_
  with_reducible refine aE ?_
  with_reducible refine aM (by kernel_rfl) ?_
  with_reducible refine ct ?_; delta R.eval_run_value
  with_reducible refine aE ?_
  with_reducible refine fJ (by kernel_rfl) (by kernel_rfl) ?_
  iterate 4 (with_reducible refine aM (by kernel_rfl) ?_)
  with_reducible refine aq (by kernel_rfl) ?_
  iterate 5 (with_reducible refine aM (by kernel_rfl) ?_)
  with_reducible refine aq (by kernel_rfl) ?_
  with_reducible refine aM (by kernel_rfl) ?_
  with_reducible refine eO ?_; delta R.eval_run_operation
  with_reducible refine aE ?_
  with_reducible refine aM (by kernel_rfl) ?_
  with_reducible refine aq (by kernel_rfl) ?_
  iterate 7 (with_reducible refine aM (by kernel_rfl) ?_)
  with_reducible refine jD ?_; delta R.eval_run_property
  with_reducible refine aE ?_
  with_reducible refine kG ?_; delta R.eval_run_parts
  with_reducible refine aE ?_
  with_reducible refine fJ (by kernel_rfl) (by kernel_rfl) ?_
  with_reducible refine aM (by kernel_rfl) ?_
  with_reducible refine fJ (by kernel_rfl) (by kernel_rfl) ?_
  with_reducible refine bk ?_; delta R.eval_run_expression
  with_reducible refine aE ?_
  with_reducible refine aq (by kernel_rfl) ?_
  with_reducible refine aE ?_
  with_reducible refine aM (by kernel_rfl) ?_
  with_reducible refine ct ?_; delta R.eval_run_value
  with_reducible refine aE ?_
  with_reducible refine fJ (by kernel_rfl) (by kernel_rfl) ?_
  iterate 4 (with_reducible refine aM (by kernel_rfl) ?_)
  with_reducible refine aq (by kernel_rfl) ?_
  iterate 3 (with_reducible refine aM (by kernel_rfl) ?_)
  with_reducible refine bj (by kernel_rfl) ?_
  with_reducible refine ql hA (by kernel_rfl) ?_
  with_reducible refine aE ?_
  with_reducible refine aI ?_
  with_reducible refine aE ?_
  with_reducible refine aI ?_
  with_reducible refine aE ?_
  iterate 2 (with_reducible refine aM (by kernel_rfl) ?_)
  with_reducible refine fJ (by kernel_rfl) (by kernel_rfl) ?_
  with_reducible refine bk ?_; delta R.eval_run_expression
  with_reducible refine aE ?_
  with_reducible refine bd ?_; delta R.bH
  with_reducible refine aE ?_
  with_reducible refine aM (by kernel_rfl) ?_
  with_reducible refine w_brf hb (by kernel_rfl) ?_
  with_reducible refine aI ?_
  with_reducible refine aE ?_
  with_reducible refine aM (by kernel_rfl) ?_
  with_reducible refine ct ?_; delta R.eval_run_value
  with_reducible refine aE ?_
  with_reducible refine yp hi (by kernel_rfl) (by kernel_rfl) ?_
  with_reducible refine bj (by kernel_rfl) ?_
  with_reducible refine aq (by kernel_rfl) ?_
  with_reducible refine aE ?_
  with_reducible refine aI ?_
  with_reducible refine aE ?_
  with_reducible refine aI ?_
  with_reducible refine aE ?_
  with_reducible refine aM (by kernel_rfl) ?_
  with_reducible refine aI ?_
  with_reducible refine aE ?_
  with_reducible refine aM (by kernel_rfl) ?_
  with_reducible refine ql hG (by kernel_rfl) ?_
  with_reducible refine aE ?_
  with_reducible refine aI ?_
  with_reducible refine aE ?_
  with_reducible refine aI ?_
  with_reducible refine aE ?_
  with_reducible refine aI ?_
  with_reducible refine aE ?_
  with_reducible refine aI ?_
  with_reducible refine aE ?_
  with_reducible refine aM (by kernel_rfl) ?_
  with_reducible refine eQ (by kernel_rfl) ?_
  with_reducible refine aI ?_
  with_reducible refine tx ?_
  with_reducible refine nY ?_
  with_reducible refine aM (by kernel_rfl) ?_
  with_reducible refine aI ?_
  with_reducible refine py ?_
  with_reducible refine sy (by kernel_rfl) ?_
  with_reducible refine aI ?_
  with_reducible refine aE ?_
  with_reducible refine aM (by kernel_rfl) ?_
  with_reducible refine kX ?_; delta R.eval_run_call
  with_reducible refine aE ?_
  with_reducible refine aM (by kernel_rfl) ?_
  with_reducible refine aq (by kernel_rfl) ?_
  with_reducible refine aE ?_
  with_reducible refine aq (by kernel_rfl) ?_
  with_reducible refine bj (by kernel_rfl) ?_
  with_reducible refine kT ?_; delta R.eval_run_does
  with_reducible refine aE ?_
  with_reducible refine aq (by kernel_rfl) ?_
  with_reducible refine aE ?_
  with_reducible refine aq (by kernel_rfl) ?_
  iterate 10 (with_reducible refine aM (by kernel_rfl) ?_)
  with_reducible refine aq (by kernel_rfl) ?_
  with_reducible refine aM (by kernel_rfl) ?_
  with_reducible refine aq (by kernel_rfl) ?_
  with_reducible refine aM (by kernel_rfl) ?_
  with_reducible refine aq (by kernel_rfl) ?_
  with_reducible refine aM (by kernel_rfl) ?_
  with_reducible refine aq (by kernel_rfl) ?_
  with_reducible refine bj (by kernel_rfl) ?_
  with_reducible refine aq (by kernel_rfl) ?_
  with_reducible refine aE ?_
  with_reducible refine kU ?_; delta R.eval_run_host
  with_reducible refine aE ?_
  with_reducible refine bd ?_
  iterate 3 (with_reducible refine aM (by kernel_rfl) ?_)
  with_reducible refine bj (by kernel_rfl) ?_
  with_reducible refine w7 (m' := R.bP (if m < n then a0 else vz)) (by kernel_rfl) (ec hu rfl) ?_
  with_reducible refine aE ?_
  with_reducible refine aM (by kernel_rfl) ?_
  with_reducible refine aI ?_
  with_reducible refine sy (by kernel_rfl) ?_
  with_reducible refine aq (by kernel_rfl) ?_
  with_reducible refine aE ?_
  with_reducible refine bj (by kernel_rfl) ?_
  with_reducible refine aI ?_
  with_reducible refine aE ?_
  with_reducible refine aI ?_
  with_reducible refine aE ?_
  with_reducible refine aI ?_
  with_reducible refine aE ?_
  with_reducible refine aI ?_
  with_reducible refine aE ?_
  with_reducible refine aI ?_
  with_reducible refine aE ?_
  with_reducible refine aI ?_
  with_reducible refine aE ?_
  with_reducible refine aI ?_
  with_reducible refine aE ?_
  with_reducible refine bj (by kernel_rfl) ?_
  with_reducible refine aI ?_
  with_reducible refine aE ?_
  with_reducible refine aI ?_
  with_reducible refine aE ?_
  with_reducible refine bj (by kernel_rfl) ?_
  with_reducible refine aI ?_
  with_reducible refine py ?_
  with_reducible refine w_inr (by kernel_rfl) ?_
  with_reducible refine aI ?_
  with_reducible refine aE ?_
  with_reducible refine aI ?_
  with_reducible refine aE ?_
  with_reducible refine bj (by kernel_rfl) ?_
  with_reducible refine aI ?_
  kernel_rfl
theorem xV {x0 : iC} {a0 : jW} (h0 : lE x0 a0) {n : Nat} (hn : n ≤ 20)  {Q} (hn0 : ¬ (R.bP (qP (n : Int))).facts) : (R.cb (nU x0 n) (20, (20, 50)) []).sat (Q) := by
  unfold R.cb R.cD
  obtain ⟨k, hk⟩ := rC
  rw [hk]
  have hA : ((bV (k + 25)).eval_run_array (lO (nU x0 n) [cell0] 4 7) (iY n) xb).sat (· = (((6, ((0, 0), ((false, []), ([], 1)))), 0), lO (nU x0 n) [cell0, kK a0 n] 4 ((7 + n : Nat) : Int))) := qz h0 hn (fun i hi => vF hi) (k + 22)
  have hG := wv (nU x0 n) a0 (n := n) (by omega) 3 ((7 + n : Nat) : Int)
  with_reducible refine aE ?_
  with_reducible refine aq (by kernel_rfl) ?_
  with_reducible refine aE ?_
  with_reducible refine bd ?_
  with_reducible refine aE ?_
  with_reducible refine aq (by kernel_rfl) ?_
  with_reducible refine aE ?_
  with_reducible refine aM (by kernel_rfl) ?_
  with_reducible refine aq (by kernel_rfl) ?_
  with_reducible refine aE ?_
  with_reducible refine aM (by kernel_rfl) ?_
  with_reducible refine fJ (by kernel_rfl) (by kernel_rfl) ?_
  with_reducible refine kY ?_; delta R.eval_run_list
  with_reducible refine aE ?_
  with_reducible refine bd ?_
  with_reducible refine nk hk ?_
  with_reducible refine bj (by kernel_rfl) ?_
  with_reducible refine fJ (by kernel_rfl) (by kernel_rfl) ?_
  with_reducible refine iq ?_; delta R.eval_run_statement
  with_reducible refine aE ?_
  with_reducible refine aq (by kernel_rfl) ?_
  with_reducible refine aE ?_
  with_reducible refine aM (by kernel_rfl) ?_
  with_reducible refine kn ?_; delta R.eval_run_act
  with_reducible refine aE ?_
  with_reducible refine fJ (by kernel_rfl) (by kernel_rfl) ?_
  with_reducible refine bj (by kernel_rfl) ?_
  with_reducible refine fJ (by kernel_rfl) (by kernel_rfl) ?_
  with_reducible refine bk ?_; delta R.eval_run_expression
  with_reducible refine aE ?_
  with_reducible refine aq (by kernel_rfl) ?_
  with_reducible refine aE ?_
  with_reducible refine aM (by kernel_rfl) ?_
  with_reducible refine ct ?_; delta R.eval_run_value
  with_reducible refine aE ?_
  with_reducible refine fJ (by kernel_rfl) (by kernel_rfl) ?_
  iterate 4 (with_reducible refine aM (by kernel_rfl) ?_)
  with_reducible refine aq (by kernel_rfl) ?_
  iterate 5 (with_reducible refine aM (by kernel_rfl) ?_)
  with_reducible refine aq (by kernel_rfl) ?_
  with_reducible refine aM (by kernel_rfl) ?_
  with_reducible refine eO ?_; delta R.eval_run_operation
  with_reducible refine aE ?_
  with_reducible refine aM (by kernel_rfl) ?_
  with_reducible refine aq (by kernel_rfl) ?_
  iterate 5 (with_reducible refine aM (by kernel_rfl) ?_)
  with_reducible refine bj (by kernel_rfl) ?_
  with_reducible refine jl ?_; delta R.eval_run_callee
  with_reducible refine aE ?_
  with_reducible refine fJ (by kernel_rfl) (by kernel_rfl) ?_
  with_reducible refine aq (by kernel_rfl) ?_
  with_reducible refine aE ?_
  with_reducible refine aM (by kernel_rfl) ?_
  with_reducible refine eQ (by kernel_rfl) ?_
  with_reducible refine iu ?_; delta R.eval_run_arguments
  with_reducible refine aE ?_
  with_reducible refine bd ?_
  with_reducible refine nk hk ?_
  with_reducible refine bj (by kernel_rfl) ?_
  with_reducible refine fJ (by kernel_rfl) (by kernel_rfl) ?_
  with_reducible refine bk ?_; delta R.eval_run_expression
  with_reducible refine aE ?_
  with_reducible refine aq (by kernel_rfl) ?_
  with_reducible refine aE ?_
  with_reducible refine aM (by kernel_rfl) ?_
  with_reducible refine ct ?_; delta R.eval_run_value
  with_reducible refine aE ?_
  with_reducible refine fJ (by kernel_rfl) (by kernel_rfl) ?_
  iterate 4 (with_reducible refine aM (by kernel_rfl) ?_)
  with_reducible refine aq (by kernel_rfl) ?_
  iterate 5 (with_reducible refine aM (by kernel_rfl) ?_)
  with_reducible refine aq (by kernel_rfl) ?_
  with_reducible refine aM (by kernel_rfl) ?_
  with_reducible refine eO ?_; delta R.eval_run_operation
  with_reducible refine aE ?_
  with_reducible refine aM (by kernel_rfl) ?_
  with_reducible refine aq (by kernel_rfl) ?_
  iterate 7 (with_reducible refine aM (by kernel_rfl) ?_)
  with_reducible refine jD ?_; delta R.eval_run_property
  with_reducible refine aE ?_
  with_reducible refine kG ?_; delta R.eval_run_parts
  with_reducible refine aE ?_
  with_reducible refine fJ (by kernel_rfl) (by kernel_rfl) ?_
  with_reducible refine aM (by kernel_rfl) ?_
  with_reducible refine fJ (by kernel_rfl) (by kernel_rfl) ?_
  with_reducible refine bk ?_; delta R.eval_run_expression
  with_reducible refine aE ?_
  with_reducible refine aq (by kernel_rfl) ?_
  with_reducible refine aE ?_
  with_reducible refine aM (by kernel_rfl) ?_
  with_reducible refine ct ?_; delta R.eval_run_value
  with_reducible refine aE ?_
  with_reducible refine fJ (by kernel_rfl) (by kernel_rfl) ?_
  iterate 4 (with_reducible refine aM (by kernel_rfl) ?_)
  with_reducible refine aq (by kernel_rfl) ?_
  iterate 3 (with_reducible refine aM (by kernel_rfl) ?_)
  with_reducible refine bj (by kernel_rfl) ?_
  with_reducible refine ql hA (by kernel_rfl) ?_
  with_reducible refine aE ?_
  with_reducible refine aI ?_
  with_reducible refine aE ?_
  with_reducible refine aI ?_
  with_reducible refine aE ?_
  with_reducible refine aM (by kernel_rfl) ?_
  with_reducible refine bj (by kernel_rfl) ?_
  with_reducible refine aq (by kernel_rfl) ?_
  with_reducible refine aE ?_
  with_reducible refine aq (by kernel_rfl) ?_
  with_reducible refine aE ?_
  with_reducible refine aI ?_
  with_reducible refine aE ?_
  with_reducible refine aM (by kernel_rfl) ?_
  with_reducible refine ql hG (by kernel_rfl) ?_
  with_reducible refine aE ?_
  with_reducible refine aI ?_
  with_reducible refine aE ?_
  with_reducible refine aI ?_
  with_reducible refine aE ?_
  with_reducible refine aI ?_
  with_reducible refine aE ?_
  with_reducible refine aI ?_
  with_reducible refine aE ?_
  with_reducible refine aM (by kernel_rfl) ?_
  with_reducible refine eQ (by kernel_rfl) ?_
  with_reducible refine aI ?_
  with_reducible refine tx ?_
  with_reducible refine nY ?_
  with_reducible refine aM (by kernel_rfl) ?_
  with_reducible refine aI ?_
  with_reducible refine py ?_
  with_reducible refine sy (by kernel_rfl) ?_
  with_reducible refine aI ?_
  with_reducible refine aE ?_
  with_reducible refine aM (by kernel_rfl) ?_
  with_reducible refine kX ?_; delta R.eval_run_call
  with_reducible refine aE ?_
  with_reducible refine aM (by kernel_rfl) ?_
  with_reducible refine aq (by kernel_rfl) ?_
  with_reducible refine aE ?_
  with_reducible refine aq (by kernel_rfl) ?_
  with_reducible refine bj (by kernel_rfl) ?_
  with_reducible refine kT ?_; delta R.eval_run_does
  with_reducible refine aE ?_
  with_reducible refine aq (by kernel_rfl) ?_
  with_reducible refine aE ?_
  with_reducible refine aq (by kernel_rfl) ?_
  iterate 10 (with_reducible refine aM (by kernel_rfl) ?_)
  with_reducible refine aq (by kernel_rfl) ?_
  with_reducible refine aM (by kernel_rfl) ?_
  with_reducible refine aq (by kernel_rfl) ?_
  with_reducible refine aM (by kernel_rfl) ?_
  with_reducible refine aq (by kernel_rfl) ?_
  with_reducible refine aM (by kernel_rfl) ?_
  with_reducible refine aq (by kernel_rfl) ?_
  with_reducible refine bj (by kernel_rfl) ?_
  with_reducible refine aq (by kernel_rfl) ?_
  with_reducible refine aE ?_
  with_reducible refine kU ?_; delta R.eval_run_host
  with_reducible refine aE ?_
  with_reducible refine bd ?_
  iterate 3 (with_reducible refine aM (by kernel_rfl) ?_)
  with_reducible refine bj (by kernel_rfl) ?_
  with_reducible exact w_nof (m' := R.bP (qP (n : Int))) (by kernel_rfl) hn0
theorem yO {x0 : iC} {a0 : jW} (h0 : lE x0 a0) {n : Nat} (hn : n ≤ 20)  {l : List Int} (hu : (R.bP (qP (n : Int))).strip = some (l, 0)) : (R.cb (nU x0 n) (20, (20, 50)) []).sat (· = asks l) := by
  unfold R.cb R.cD
  obtain ⟨k, hk⟩ := rC
  rw [hk]
  have hA : ((bV (k + 25)).eval_run_array (lO (nU x0 n) [cell0] 4 7) (iY n) xb).sat (· = (((6, ((0, 0), ((false, []), ([], 1)))), 0), lO (nU x0 n) [cell0, kK a0 n] 4 ((7 + n : Nat) : Int))) := qz h0 hn (fun i hi => vF hi) (k + 22)
  have hG := wv (nU x0 n) a0 (n := n) (by omega) 3 ((7 + n : Nat) : Int)
  with_reducible refine aE ?_
  with_reducible refine aq (by kernel_rfl) ?_
  with_reducible refine aE ?_
  with_reducible refine bd ?_
  with_reducible refine aE ?_
  with_reducible refine aq (by kernel_rfl) ?_
  with_reducible refine aE ?_
  with_reducible refine aM (by kernel_rfl) ?_
  with_reducible refine aq (by kernel_rfl) ?_
  with_reducible refine aE ?_
  with_reducible refine aM (by kernel_rfl) ?_
  with_reducible refine fJ (by kernel_rfl) (by kernel_rfl) ?_
  with_reducible refine kY ?_; delta R.eval_run_list
  with_reducible refine aE ?_
  with_reducible refine bd ?_
  with_reducible refine nk hk ?_
  with_reducible refine bj (by kernel_rfl) ?_
  with_reducible refine fJ (by kernel_rfl) (by kernel_rfl) ?_
  with_reducible refine iq ?_; delta R.eval_run_statement
  with_reducible refine aE ?_
  with_reducible refine aq (by kernel_rfl) ?_
  with_reducible refine aE ?_
  with_reducible refine aM (by kernel_rfl) ?_
  with_reducible refine kn ?_; delta R.eval_run_act
  with_reducible refine aE ?_
  with_reducible refine fJ (by kernel_rfl) (by kernel_rfl) ?_
  with_reducible refine bj (by kernel_rfl) ?_
  with_reducible refine fJ (by kernel_rfl) (by kernel_rfl) ?_
  with_reducible refine bk ?_; delta R.eval_run_expression
  with_reducible refine aE ?_
  with_reducible refine aq (by kernel_rfl) ?_
  with_reducible refine aE ?_
  with_reducible refine aM (by kernel_rfl) ?_
  with_reducible refine ct ?_; delta R.eval_run_value
  with_reducible refine aE ?_
  with_reducible refine fJ (by kernel_rfl) (by kernel_rfl) ?_
  iterate 4 (with_reducible refine aM (by kernel_rfl) ?_)
  with_reducible refine aq (by kernel_rfl) ?_
  iterate 5 (with_reducible refine aM (by kernel_rfl) ?_)
  with_reducible refine aq (by kernel_rfl) ?_
  with_reducible refine aM (by kernel_rfl) ?_
  with_reducible refine eO ?_; delta R.eval_run_operation
  with_reducible refine aE ?_
  with_reducible refine aM (by kernel_rfl) ?_
  with_reducible refine aq (by kernel_rfl) ?_
  iterate 5 (with_reducible refine aM (by kernel_rfl) ?_)
  with_reducible refine bj (by kernel_rfl) ?_
  with_reducible refine jl ?_; delta R.eval_run_callee
  with_reducible refine aE ?_
  with_reducible refine fJ (by kernel_rfl) (by kernel_rfl) ?_
  with_reducible refine aq (by kernel_rfl) ?_
  with_reducible refine aE ?_
  with_reducible refine aM (by kernel_rfl) ?_
  with_reducible refine eQ (by kernel_rfl) ?_
  with_reducible refine iu ?_; delta R.eval_run_arguments
  with_reducible refine aE ?_
  with_reducible refine bd ?_
  with_reducible refine nk hk ?_
  with_reducible refine bj (by kernel_rfl) ?_
  with_reducible refine fJ (by kernel_rfl) (by kernel_rfl) ?_
  with_reducible refine bk ?_; delta R.eval_run_expression
  with_reducible refine aE ?_
  with_reducible refine aq (by kernel_rfl) ?_
  with_reducible refine aE ?_
  with_reducible refine aM (by kernel_rfl) ?_
  with_reducible refine ct ?_; delta R.eval_run_value
  with_reducible refine aE ?_
  with_reducible refine fJ (by kernel_rfl) (by kernel_rfl) ?_
  iterate 4 (with_reducible refine aM (by kernel_rfl) ?_)
  with_reducible refine aq (by kernel_rfl) ?_
  iterate 5 (with_reducible refine aM (by kernel_rfl) ?_)
  with_reducible refine aq (by kernel_rfl) ?_
  with_reducible refine aM (by kernel_rfl) ?_
  with_reducible refine eO ?_; delta R.eval_run_operation
  with_reducible refine aE ?_
  with_reducible refine aM (by kernel_rfl) ?_
  with_reducible refine aq (by kernel_rfl) ?_
  iterate 7 (with_reducible refine aM (by kernel_rfl) ?_)
  with_reducible refine jD ?_; delta R.eval_run_property
  with_reducible refine aE ?_
  with_reducible refine kG ?_; delta R.eval_run_parts
  with_reducible refine aE ?_
  with_reducible refine fJ (by kernel_rfl) (by kernel_rfl) ?_
  with_reducible refine aM (by kernel_rfl) ?_
  with_reducible refine fJ (by kernel_rfl) (by kernel_rfl) ?_
  with_reducible refine bk ?_; delta R.eval_run_expression
  with_reducible refine aE ?_
  with_reducible refine aq (by kernel_rfl) ?_
  with_reducible refine aE ?_
  with_reducible refine aM (by kernel_rfl) ?_
  with_reducible refine ct ?_; delta R.eval_run_value
  with_reducible refine aE ?_
  with_reducible refine fJ (by kernel_rfl) (by kernel_rfl) ?_
  iterate 4 (with_reducible refine aM (by kernel_rfl) ?_)
  with_reducible refine aq (by kernel_rfl) ?_
  iterate 3 (with_reducible refine aM (by kernel_rfl) ?_)
  with_reducible refine bj (by kernel_rfl) ?_
  with_reducible refine ql hA (by kernel_rfl) ?_
  with_reducible refine aE ?_
  with_reducible refine aI ?_
  with_reducible refine aE ?_
  with_reducible refine aI ?_
  with_reducible refine aE ?_
  with_reducible refine aM (by kernel_rfl) ?_
  with_reducible refine bj (by kernel_rfl) ?_
  with_reducible refine aq (by kernel_rfl) ?_
  with_reducible refine aE ?_
  with_reducible refine aq (by kernel_rfl) ?_
  with_reducible refine aE ?_
  with_reducible refine aI ?_
  with_reducible refine aE ?_
  with_reducible refine aM (by kernel_rfl) ?_
  with_reducible refine ql hG (by kernel_rfl) ?_
  with_reducible refine aE ?_
  with_reducible refine aI ?_
  with_reducible refine aE ?_
  with_reducible refine aI ?_
  with_reducible refine aE ?_
  with_reducible refine aI ?_
  with_reducible refine aE ?_
  with_reducible refine aI ?_
  with_reducible refine aE ?_
  with_reducible refine aM (by kernel_rfl) ?_
  with_reducible refine eQ (by kernel_rfl) ?_
  with_reducible refine aI ?_
  with_reducible refine tx ?_
  with_reducible refine nY ?_
  with_reducible refine aM (by kernel_rfl) ?_
  with_reducible refine aI ?_
  with_reducible refine py ?_
  with_reducible refine sy (by kernel_rfl) ?_
  with_reducible refine aI ?_
  with_reducible refine aE ?_
  with_reducible refine aM (by kernel_rfl) ?_
  with_reducible refine kX ?_; delta R.eval_run_call
  with_reducible refine aE ?_
  with_reducible refine aM (by kernel_rfl) ?_
  with_reducible refine aq (by kernel_rfl) ?_
  with_reducible refine aE ?_
  with_reducible refine aq (by kernel_rfl) ?_
  with_reducible refine bj (by kernel_rfl) ?_
  with_reducible refine kT ?_; delta R.eval_run_does
  with_reducible refine aE ?_
  with_reducible refine aq (by kernel_rfl) ?_
  with_reducible refine aE ?_
  with_reducible refine aq (by kernel_rfl) ?_
  iterate 10 (with_reducible refine aM (by kernel_rfl) ?_)
  with_reducible refine aq (by kernel_rfl) ?_
  with_reducible refine aM (by kernel_rfl) ?_
  with_reducible refine aq (by kernel_rfl) ?_
  with_reducible refine aM (by kernel_rfl) ?_
  with_reducible refine aq (by kernel_rfl) ?_
  with_reducible refine aM (by kernel_rfl) ?_
  with_reducible refine aq (by kernel_rfl) ?_
  with_reducible refine bj (by kernel_rfl) ?_
  with_reducible refine aq (by kernel_rfl) ?_
  with_reducible refine aE ?_
  with_reducible refine kU ?_; delta R.eval_run_host
  with_reducible refine aE ?_
  with_reducible refine bd ?_
  iterate 3 (with_reducible refine aM (by kernel_rfl) ?_)
  with_reducible refine bj (by kernel_rfl) ?_
  with_reducible refine w7 (m' := R.bP (qP (n : Int))) (by kernel_rfl) (ec hu rfl) ?_
  with_reducible refine aE ?_
  with_reducible refine aM (by kernel_rfl) ?_
  with_reducible refine aI ?_
  with_reducible refine sy (by kernel_rfl) ?_
  with_reducible refine aq (by kernel_rfl) ?_
  with_reducible refine aE ?_
  with_reducible refine bj (by kernel_rfl) ?_
  with_reducible refine aI ?_
  with_reducible refine aE ?_
  with_reducible refine aI ?_
  with_reducible refine aE ?_
  with_reducible refine aI ?_
  with_reducible refine aE ?_
  with_reducible refine aI ?_
  with_reducible refine aE ?_
  with_reducible refine aI ?_
  with_reducible refine aE ?_
  with_reducible refine aI ?_
  with_reducible refine aE ?_
  with_reducible refine aI ?_
  with_reducible refine aE ?_
  with_reducible refine bj (by kernel_rfl) ?_
  with_reducible refine aI ?_
  with_reducible refine aE ?_
  with_reducible refine aI ?_
  with_reducible refine aE ?_
  with_reducible refine bj (by kernel_rfl) ?_
  with_reducible refine aI ?_
  with_reducible refine py ?_
  with_reducible refine w_inr (by kernel_rfl) ?_
  with_reducible refine aI ?_
  with_reducible refine aE ?_
  with_reducible refine aI ?_
  with_reducible refine aE ?_
  with_reducible refine bj (by kernel_rfl) ?_
  with_reducible refine aI ?_
  kernel_rfl
theorem y0 {x0 : iC} {a0 : jW} (h0 : lE x0 a0) {n m : Nat} (hn : n ≤ 20) (hm : m ≤ 30) : (R.cb (mT x0 n m) (20, (20, 50)) []).sat (fun r => Out (if m < n then a0 else vz) 0 r) := by
  rcases ui (wz (v := (if m < n then a0 else vz)) (arrV h0)) with hn0 | ⟨⟨l, s⟩, hu, hs⟩
  · exact yU h0 hn hm hn0
  · have hs : s = 0 := hs
    subst hs
    exact jZ (yT h0 hn hm hu) fun r e => e ▸ .asks l hu
theorem yZ {x0 : iC} {a0 : jW} (h0 : lE x0 a0) {n : Nat} (hn : n ≤ 20) : (R.cb (nU x0 n) (20, (20, 50)) []).sat (fun r => Out (qP (n : Int)) 0 r) := by
  rcases ui (wz (v := (qP (n : Int))) (by simp)) with hn0 | ⟨⟨l, s⟩, hu, hs⟩
  · exact xV h0 hn hn0
  · have hs : s = 0 := hs
    subst hs
    exact jZ (yO h0 hn hu) fun r e => e ▸ .asks l hu
end Go.Mach
set_option maxRecDepth 1000000
namespace Go.Mach
open Res
theorem yb : ∀ F : Res Bool, F = R.cO → F.sat (· = true) := by
  intro F h
  have h2 := tI
  rw [← h] at h2
  exact Res.ec h2 rfl
instance zS {a} : Safe (R.bl a) := by unfold R.bl; repeat' (first | with_reducible (first | apply Safe.g' | apply Safe.br' | apply Safe.bd' | apply Safe.sm' | intro _ | infer_instance))
theorem uO (a : jW) : (R.bl a).sat fun _ => True := safe
theorem yN {a : jW} {β : Type} {Q : β → Prop} {k : iC × Bool → Res β} (h1 : ∀ x, lE x a → (k (x, true)).sat Q) (h2 : ∀ x e, e = false ∨ ¬ qQ a → (k (x, e)).sat Q) : ((R.bl a).bind k).sat Q := by
  by_cases hm : qQ a
  · refine bC (yD hm) fun ⟨x, e⟩ hx => ?_
    cases e
    · exact h2 x _ (.inl rfl)
    · exact h1 x (hx rfl)
  · exact bC (uO a) fun ⟨x, e⟩ _ => h2 x e (.inr hm)
theorem t_may {a : jW} {k : Res Bool} (h : ¬ qQ a) : (Res.bind (R.fi a) fun r => br (!r) (.ok true) k).sat (· = true) := bC sK fun r hr => by
  cases r
  · exact bj rfl (aI rfl)
  · exact absurd (hr rfl) h
theorem t_e {e : Bool} {p : Prop} {k : Res Bool} (he : e = false ∨ p) (h : p → k.sat (· = true)) : (br (!e) (.ok true) k).sat (· = true) := by
  cases e
  · exact bj rfl (aI rfl)
  · rcases he with he | he
    · cases he
    · exact aM rfl (h he)
end Go.Mach
set_option maxRecDepth 1000000
namespace Go.Mach
open Res
theorem vE {x : iC} {a : jW} (h : lE x a) {n : Nat} (hn : n ≤ 20) {m : Nat} (hm : m ≤ 30) : (R.fU (mT x n m)).sat (· = true) := by
  refine tP (e0 := nd 1 [] [1]) (rest := [nd 3 [] [2], nd 50 [] [3, 6], nd 52 [114, 101, 112, 111, 114, 116] [4], nd 52 [97, 103, 101, 110, 116] [5], nd 33 [36, 50, 54, 50] []] ++ (nd 53 [] [7, ((8 + n : Nat) : Int)] :: nd 38 [] (iY n) :: (List.replicate n x ++ [(30, ([], ([], ((0, (m : Int)), ((false, []), [])))))]))) (yw h (by omega) m).1 rfl (fun e he => ?_) fun e he => ?_
  · simp only [List.cons_append, List.nil_append, List.mem_cons, List.mem_append, List.mem_replicate, List.not_mem_nil, or_false] at he
    rcases he with rfl | rfl | rfl | rfl | rfl | rfl | rfl | ⟨_, rfl⟩ | rfl <;> first | exact yn h | simp
  · simp only [List.cons_append, List.nil_append, List.mem_cons, List.mem_append, List.mem_replicate, List.not_mem_nil, or_false] at he
    rcases he with rfl | rfl | rfl | rfl | rfl | rfl | rfl | rfl | ⟨_, rfl⟩ | rfl <;> first | exact o4 h | exact o4 (.num m (by omega) (by omega)) | exact eL (by kernel_rfl)
theorem vI {x : iC} {a : jW} (h : lE x a) {n : Nat} (hn : n ≤ 20) : (R.fU (nU x n)).sat (· = true) := by
  refine tP (e0 := nd 1 [] [1]) (rest := [nd 3 [] [2], nd 50 [] [3, 6], nd 52 [114, 101, 112, 111, 114, 116] [4], nd 52 [97, 103, 101, 110, 116] [5], nd 33 [36, 50, 54, 50] []] ++ (nd 52 [108, 101, 110, 103, 116, 104] [7] :: nd 38 [] (iY n) :: List.replicate n x)) (zF h (by omega)).1 rfl (fun e he => ?_) fun e he => ?_
  · simp only [List.cons_append, List.nil_append, List.mem_cons, List.mem_append, List.mem_replicate, List.not_mem_nil, or_false] at he
    rcases he with rfl | rfl | rfl | rfl | rfl | rfl | rfl | ⟨_, rfl⟩ <;> first | exact yn h | simp
  · simp only [List.cons_append, List.nil_append, List.mem_cons, List.mem_append, List.mem_replicate, List.not_mem_nil, or_false] at he
    rcases he with rfl | rfl | rfl | rfl | rfl | rfl | rfl | rfl | ⟨_, rfl⟩ <;> first | exact o4 h | exact eL (by kernel_rfl)
theorem zi {x : iC} {n : Nat} (hn : n ≤ 20) {f : List iC × Int → Res (Step (List iC × Int) (List iC))} (h1 : ∀ j : Nat, j < n → (f (List.replicate j x, (j : Int))).sat (· = .next (List.replicate (j + 1) x, ((j + 1 : Nat) : Int)))) (h2 : (f (List.replicate n x, (n : Int))).sat (· = .done (List.replicate n x))) : (loop f fuel ([], 0)).sat (· = List.replicate n x) := by
  refine oJ (fun a : List iC × Int => a.2) n (by omega) (fun a => ∃ j : Nat, j ≤ n ∧ a = (List.replicate j x, (j : Int))) ⟨0, by omega, rfl⟩ (fun a ⟨j, hj, e⟩ => by subst e; simp only; omega) ?_
  rintro _ ⟨j, hj, rfl⟩
  by_cases h : j < n
  · refine jZ (h1 j h) ?_
    rintro _ rfl
    exact ⟨by simp, j + 1, by omega, rfl⟩
  · obtain rfl : j = n := by omega
    refine jZ h2 ?_
    rintro _ rfl
    rfl
theorem kids_A {n : Nat} (hn : n ≤ 20) {f : Int × iC → Res (Step (Int × iC) iC)} (h1 : ∀ j : Nat, j < n → (f ((j : Int), nd 38 [] (iY j))).sat (· = .next (((j + 1 : Nat) : Int), nd 38 [] (iY (j + 1))))) (h2 : (f ((n : Int), nd 38 [] (iY n))).sat (· = .done (nd 38 [] (iY n)))) : (loop f fuel (0, nd 38 [] [])).sat (· = nd 38 [] (iY n)) := by
  refine oJ (fun a : Int × iC => a.1) n (by omega) (fun a => ∃ j : Nat, j ≤ n ∧ a = ((j : Int), nd 38 [] (iY j))) ⟨0, by omega, rfl⟩ (fun a ⟨j, hj, e⟩ => by subst e; simp only; omega) ?_
  rintro _ ⟨j, hj, rfl⟩
  by_cases h : j < n
  · refine jZ (h1 j h) ?_
    rintro _ rfl
    exact ⟨by simp, j + 1, by omega, rfl⟩
  · obtain rfl : j = n := by omega
    refine jZ h2 ?_
    rintro _ rfl
    rfl
theorem vm (n : Nat) : iY n ++ [((8 + n : Nat) : Int)] = iY (n + 1) := by simp [iY, List.range_succ]
theorem rT (a : jW) (n m : Int) : o8 (R.cS a n m) (· = true) := by
  constructor
  unfold R.cS
  have firstF := yb
  generalize hF : R.cO = F at firstF ⊢
  have nV := firstF _ rfl
  refine aN fun _ => aP nV (aM rfl ?_)
  refine yN (fun x hx => aN fun _ => ?_) fun x e he => aN fun _ => aP (t_e he fun h => t_may h) (bj rfl (aP nV (aI rfl)))
  refine bC (R := fun b => b = false → 0 ≤ n ∧ n ≤ 20 ∧ 0 ≤ m ∧ m ≤ 30) (aM rfl (aP (xa hx) (aM rfl (qI (fun _ => aI fun h => by cases h) fun g1 => qI (fun _ => aI fun h => by cases h) fun g2 => qI (fun _ => aI fun h => by cases h) fun g3 => aI fun h => ⟨g1, g2, g3, by rw [ia] at h; exact h⟩)))) fun b hb => fl (fun _ => aP nV (aI rfl)) fun h2 => ?_
  obtain ⟨n0, n1, m0, m1⟩ := hb h2
  obtain ⟨n, rfl⟩ : ∃ k : Nat, n = k := ⟨n.toNat, by omega⟩
  obtain ⟨m, rfl⟩ : ∃ k : Nat, m = k := ⟨m.toNat, by omega⟩
  have hn : n ≤ 20 := by omega
  have hm : m ≤ 30 := by omega
  have w8 : ∀ j : Nat, j ≤ 20 → IntKind.wrap .i64 (8 + (j : Int)) = ((8 + j : Nat) : Int) := fun j hj => by rw [wrap64 (by omega)]; omega
  have w1 : ∀ j : Nat, j ≤ 20 → IntKind.wrap .i64 ((j : Int) + 1) = ((j + 1 : Nat) : Int) := fun j hj => by rw [wrap64 (by omega)]; omega
  refine aP (a := List.replicate n x) (zi hn (fun j hj => bj (by rw [jN]; omega) (eQ (by rw [decide_eq_true_eq]; simp; omega) (aI ?_))) (aM (by rw [ia]; omega) (aI rfl))) ?_
  · rw [w1 j (by omega), ← List.replicate_succ']
  refine aP (a := nd 38 [] (iY n)) (kids_A hn (fun j hj => bj (by rw [jN]; omega) (eQ (by rw [decide_eq_true_eq]; simp [pz]; omega) (aI ?_))) (aM (by rw [ia]; omega) (aI rfl))) ?_
  · simp only
    rw [w1 j (by omega), w8 j (by omega), vm]
  rw [w8 n hn]
  refine eQ (by rw [decide_eq_true_eq]; simp; omega) (eQ (by rw [decide_eq_true_eq]; simp; omega) (eQ (by rw [decide_eq_true_eq]; simp; omega) ?_))
  have rp : ∀ {l : List iC}, l.length ≤ 30 → (R.bR l).sat (· = uV ++ l) := fun hl => by
    unfold R.bR
    exact aN fun _ => eQ (by rw [decide_eq_true_eq]; simp; omega) (aI rfl)
  have r1 := rp (l := ([nd 53 [] [7, ((8 + n : Nat) : Int)], nd 38 [] (iY n)] ++ List.replicate n x) ++ [(30, ([], ([], ((0, (m : Int)), ((false, []), [])))))]) (by simp; omega)
  have r2 := rp (l := [nd 52 [108, 101, 110, 103, 116, 104] [7], nd 38 [] (iY n)] ++ List.replicate n x) (by simp; omega)
  have e1 : uV ++ (([nd 53 [] [7, ((8 + n : Nat) : Int)], nd 38 [] (iY n)] ++ List.replicate n x) ++ [(30, ([], ([], ((0, (m : Int)), ((false, []), [])))))]) = mT x n m := by simp [mT]
  have e2 : uV ++ ([nd 52 [108, 101, 110, 103, 116, 104] [7], nd 38 [] (iY n)] ++ List.replicate n x) = nU x n := by simp [nU]
  rw [e1] at r1
  rw [e2] at r2
  refine aP (a := false) (aP r1 (aN fun _ => aP (vE hx hn hm) (aM rfl (aP r2 (aN fun _ => aP (vI hx hn) (aI rfl)))))) (aM rfl ?_)
  have c1 := sO (by simp; omega) (vE hx hn hm) (yw hx (by omega) m).2
  have c2 := sO (by simp; omega) (vI hx hn) (zF hx (by omega)).2
  refine aP r1 (aN fun _ => aP (a := (20, (20, 50))) (eL (by kernel_rfl)) (aN fun _ => bC (tV c1 (y0 hx hn hm)) fun u1 o1 => aN fun _ => ?_))
  refine aP r2 (aN fun _ => aP (a := (20, (20, 50))) (eL (by kernel_rfl)) (aN fun _ => bC (tV c2 (yZ hx hn)) fun u2 o2 => aN fun _ => ?_))
  refine aP (a := if m < n then a else vz) (fl (fun h => aI ?_) fun h => aI ?_) ?_
  · rw [jN] at h; rw [if_pos (by omega)]
  · rw [ia] at h; rw [if_neg (by omega)]
  exact aP nV (bj rfl (aP (sw o1) (bj rfl (aP (a := qP (n : Int)) (eL (by kernel_rfl)) (aN fun _ => aP (sw o2) (aI rfl))))))
end Go.Mach
namespace Go.Mach
theorem we {P : Program} {c : OpenClaim} (h : P.funcs.any Func.goes = false) (hs : c.start = .entering) : false = c.goesBy P := by
  have h1 : ∀ g : Nat, (P.funcs[g]?).any Func.goes = false := fun g => by
    cases hg : P.funcs[g]? with
    | none => rfl
    | some fn => simpa using (Array.any_eq_false'.1 h) fn (Array.mem_of_getElem? hg)
  have h2 : ∀ f, P.goes f = false := fun f => by
    unfold Program.goes
    rw [h, Bool.and_false, Bool.or_false, List.any_eq_false]
    exact fun g _ => by rw [h1 g]; decide
  have h3 : P.goesFrom c.func = false := by
    unfold Program.goesFrom
    cases P.funcNamed c.func with
    | none => rfl
    | some f => exact h2 f
  unfold OpenClaim.goesBy Program.goesAt
  rw [h3, hs]
  rfl
end Go.Mach
